import PyProof.Rows.All
import HandS.ForMost
import HandS.Exc
import HandS.TryOnly
import HandS.TryMany
import HandS.ExcOwn
import HandS.WordsExc
import HandS.Lambda
import HandS.EndOwn
import HandS.GenList
import HandS.AnyAll
import PyProof.SumAny
import HandS.Rev
import HandS.SortInts
import KE.GoesEnum
import HandS.Zip
import HandS.TupAny
import HandS.TupMul
import HandS.Remove
import HandS.SetFor
import HandS.Conv
import KE.DataMinKey
import KE.DataMinMax
import HandS.SortKw
import PySem.Challenge.RW_pairmart_k21_things_given_whole
import HandS.Walk
set_option Elab.async false
set_option linter.all false
set_option maxRecDepth 100000
set_option maxHeartbeats 4000000
/-! a generator's run from one waking to the next, told anew at each waking -/
namespace PM
open PySem PySem.Spec PyProof.Rows L2 GenW

/-- from here on the code runs to its end (Re) or to where it hands out an item (Yi) -/
def SegX (M : Model) (A : Around) (c : Code) (t : Sem PySem.Fin) (fs : List Frame) (s : Shared) (Re : Result → Shared → Prop) (Yi : Value → GenState → Shared → Prop) : Prop :=
  ∀ (Γ : PySem.Ctx) (p : Pos), Γ.code = c → Γ.Woken A → ∃ (e : End) (s' : Shared), Runs M Γ p t fs s e s' ∧
    (match e with
      | .ret r => Re r s'
      | .susp v g l k c' p' fs' => (End.susp v g l k c' p' fs').quiet = true ∧ Yi v (End.susp v g l k c' p' fs').genState s')

section
variable {M : Model} {A : Around} {c : Code} {fs : List Frame} {s : Shared} {Re : Result → Shared → Prop} {Yi : Value → GenState → Shared → Prop}

theorem segx_wrap {α : Type} {m : Sem α} {K : α → Sem PySem.Fin} {J : Value → Sem PySem.Fin} {gd lv}
    (h : wpAny M (A.over c fs) m (fun a s' => SegX M A c (K a) fs s' Re Yi) (fun x s' => SegX M A c (J x) fs s' Re Yi) s) : SegX M A c (m.wrap K J gd lv) fs s Re Yi := by
  rintro Γ p rfl hΓ
  exact runs_wrap_of_wp K J gd lv m (h (Γ.over fs) p (hΓ.over fs)) (fun a p' s' h' => h' Γ p' rfl hΓ) (fun x p' s' h' => h' Γ p' rfl hΓ)
theorem segx_bind_wrap {α β : Type} {m : Sem α} {K : α → Sem β} {K' : β → Sem PySem.Fin} {J : Value → Sem PySem.Fin} {gd lv}
    (h : wpAny M (A.over c fs) m (fun a s' => SegX M A c ((K a).wrap K' J gd lv) fs s' Re Yi) (fun x s' => SegX M A c (J x) fs s' Re Yi) s) : SegX M A c ((m >>= K).wrap K' J gd lv) fs s Re Yi := by
  rw [Sem.bind_eq_wrap', Sem.wrap_wrap]; exact segx_wrap h
theorem segx_at {p' : Pos} {k : Unit → Sem PySem.Fin} (h : SegX M A c (k ()) fs s Re Yi) : SegX M A c (.at p' k) fs s Re Yi :=
  segx_wrap (m := standAt p') (K := k) (J := .raise) (gd := id) (lv := id) (wpAny_standAt h)
theorem segx_again {c' : Code} (hq : c'.quiet = true) (hc : SegX M A c' (M.den c') fs s Re Yi) : SegX M A c (.pure (.again c')) fs s Re Yi := by
  rintro Γ p rfl hΓ
  obtain ⟨e, s', hr, he⟩ := hc (Γ.goto c') p rfl (hΓ.goto c')
  exact ⟨e, s', Runs.head (c₁ := c') (fun _ _ x => .again hq x) hr, he⟩
theorem segx_end (r : Result) (h : Re r s) : SegX M A c (leafOf r) [] s Re Yi := by
  rintro Γ p rfl _
  exact ⟨.ret r, s, Runs.leaf r, h⟩
theorem segx_leaf {k h g l c₁ p₁ kp} (r : Result) (hk : SegX M A c₁ (k r) fs s Re Yi) : SegX M A c (leafOf r) (.ret k h g l c₁ p₁ kp :: fs) s Re Yi := by
  rintro Γ p rfl hΓ
  obtain ⟨e, s', hr, he⟩ := hk (Γ.goto c₁) p₁ rfl (hΓ.goto c₁)
  exact ⟨e, s', Runs.pop r hr, he⟩
theorem segx_call {c' : Code} {h g l} {k : Result → Sem PySem.Fin} (hc : ∀ p, SegX M A c' (M.den c') (.ret k h g l c p [] :: fs) s Re Yi) : SegX M A c (.call c' h g l k) fs s Re Yi := by
  rintro Γ p rfl hΓ
  obtain ⟨e, s', hr, he⟩ := hc p (Γ.goto c') p rfl (hΓ.goto c')
  exact ⟨e, s', runs_call_seg hr, he⟩
theorem segx_yield {v g l} {k : Resume → Sem PySem.Fin} (hfs : splitAtGen fs = none) (hg : g = false) (hfg : fs.any Frame.guarded = false)
    (h : ∀ p : Pos, Yi v (End.susp v g l k c p fs).genState s) : SegX M A c (.yield v g l k) fs s Re Yi := by
  rintro Γ p rfl _
  exact ⟨_, s, Runs.yield' fs hfs, And.intro (by simp [End.quiet, hg, hfg]) (h p)⟩

/-- woken with None -/
def GoesX (M : Model) (A : Around) (gs : GenState) (s : Shared) (Re : Result → Shared → Prop) (Yi : Value → GenState → Shared → Prop) : Prop :=
  match gs with
  | .fresh c => SegX M A c (M.den c) [] s Re Yi
  | .suspended k _ c _ fs _ => SegX M A c (k (.send .none)) fs s Re Yi
  | _ => False

theorem wpAny_resumeX {E : Value → Shared → Prop} {g : Nat} {gs : GenState} {l : List Value} {α : Type} {k : GenResult → Sem α} {Q : α → Shared → Prop} (hg : s.gens[g]? = some gs)
    (hgo : GoesX M A gs (s.setGen g .running) Re Yi)
    (hR : ∀ x s₁, Re x s₁ → wpAny M A (k (End.ret x).result) Q E (s₁.setGen g .finished))
    (hY : ∀ v gs' s₁, gs'.bare = true → Yi v gs' s₁ → wpAny M A (k (.yielded v)) Q E (s₁.setGen g gs')) :
    wpAny M A (.resume g (.send .none) l k) Q E s := by
  intro Γ p hΓ
  rw [Sem.wp_resume]
  have hB : ∀ c, (Γ.wake c p).Woken A := fun c => hΓ.wake c p
  have fin : ∀ (e₁ : End) (s₁ : Shared), (match e₁ with
      | .ret r => Re r s₁
      | .susp v g l k c' p' fs' => (End.susp v g l k c' p' fs').quiet = true ∧ Yi v (End.susp v g l k c' p' fs').genState s₁) →
      e₁.quiet = true ∧ Sem.wp M Γ (k e₁.result) (fun a _ s' => Q a s') (fun e _ s' => E e s') p (s₁.setGen g e₁.genState) := by
    intro e₁ s₁ he
    cases e₁ with
    | ret x => exact ⟨rfl, hR x s₁ he Γ p hΓ⟩
    | susp v g₀ l₀ k₀ c₀ p₀ fs₀ => exact ⟨he.1, hY v _ s₁ (End.bare_of_quiet he.1) he.2 Γ p hΓ⟩
  cases gs with
  | fresh c =>
    obtain ⟨e₁, s₁, hr, he⟩ := hgo (Γ.wake c p) p rfl (hB c)
    exact ⟨_, _, by unfold Wakes; rw [hg]; exact ⟨e₁, s₁, hr, (fin e₁ s₁ he).1, rfl, rfl⟩, (fin e₁ s₁ he).2⟩
  | suspended k₀ l₀ c₀ p₀ fs₀ cl =>
    obtain ⟨e₁, s₁, hr, he⟩ := hgo (Γ.wake c₀ p) p₀ rfl (hB c₀)
    exact ⟨_, _, by unfold Wakes; rw [hg]; exact ⟨e₁, s₁, hr, (fin e₁ s₁ he).1, rfl, rfl⟩, (fin e₁ s₁ he).2⟩
  | running => exact hgo.elim
  | finished => exact hgo.elim
end

section
variable {P : Program} {w : World} {A : Around} {E : Value → Shared → Prop} {s : Shared}
/-- next of a generator: it ends as a generator's own code ends, or an item comes -/
theorem next_genX {a : Addr} {g : Nat} {gs : GenState} {Fi : Shared → Prop} {Yi : Value → GenState → Shared → Prop} {Q : Option Value → Shared → Prop} (hh : A.handled = none)
    (hl : s.heap.NoLimit) (hroom : A.depth < recursionLimit) (hg : s.heap.IsGen a g) (hgs : s.gens[g]? = some gs)
    (hgo : GoesX (model P w) A.in1 gs (s.setGen g .running) (fun r s₁ => r = .ok .next ∧ Fi s₁) Yi)
    (hY : ∀ v s₁ gs', gs'.bare = true → Yi v gs' s₁ → Q (some v) (s₁.setGen g gs'))
    (hP : ∀ s₁, Fi s₁ → ∀ h', (∀ b o, s₁.heap.get? b = some o → h'.get? b = some o) → Q none { s₁.setGen g .finished with heap := h' }) :
    wpAny (model P w) A (pyNext (.ref a)) Q E s := by
  unfold pyNext
  refine wpAny_bind (wpAny_attempt (wpAny_callSpecial?_slot (name := Str.ofString "__next__") hg.typeIs slot_gen_next
    (wpAny_call_entry slot_gen_next hg.typeIs entry_gen_next ?_ (args_gen_next _))))
  show wpAny _ A.in1 (Builtin.Generator.genWake (.ref a) (.send .none)) _ _ s
  unfold Builtin.Generator.genWake
  refine wpAny_bind (wpAny_holding (wpAny_genNumber hg (wpAny_bind (wpAny_genState hgs ?_))))
  cases gs with
  | running => exact hgo.elim
  | finished => exact hgo.elim
  | _ =>
    refine wpAny_bind (wpAny_roomToWake hl hroom ?_)
    show wpAny _ A.in1 (.resume g (.send .none) [] _) _ _ s
    refine wpAny_resumeX hgs hgo (fun x s₁ hx => ?_) (fun v gs' s₁ hb hv => ?_)
    · obtain ⟨rfl, hp⟩ := hx
      show wpAny _ A.in1 (newExc (.type "StopIteration") [] >>= _) _ _ _
      refine wpAny_bind ?_
      simp only [newExc, newTuple]
      refine wpAny_bind (wpAny_newObj_type ?_ (by size_fits))
      refine wpAny_bind (m := firstArgMember _ _) (wpAny_of_eq (a := Value.none) (by first | rfl | (simp only [firstArgMember]; rfl)) ?_)
      refine wpAny_newObj_type ?_ (by size_fits)
      simp only [raiseNew]
      refine wpAny_bind (wpAny_bind (wpAny_handled ?_))
      first | rw [show A.in1.handled = none from hh] | rw [hh]
      refine wpAny_throw ?_
      refine wpAny_bind (wpAny_isInstance (T := "StopIteration") (b := true) ⟨_, Heap.get?_push_size _ rfl, rfl⟩ isSubtype_stop ?_)
      exact wpAny_pure (hP s₁ hp _ fun b o hb => Heap.get?_push_of_some _ (Heap.get?_push_of_some _ hb))
    · exact wpAny_pure ⟨v, rfl, wpAny_pure (hY v s₁ gs' hb hv)⟩
end

theorem over_comp {A : Around} {elt : Expr} {gens : List Comprehension} {scope : Scope} {pos : Pos} {it acc : Value} {env : Env} : A.over (.compLoop (.GeneratorExp elt gens scope pos) 0 it acc env) [] = A.deeper env := by
  first
    | rfl
    | (obtain ⟨hd, d, fr, gs, u⟩ := A; simp [Around.over, Around.deeper, marksOver, frameCount, unitsOf, envsOf, guardsOf, pushEnvs, pushGuards, Code.envs, Code.env?, Code.isFrame, Code.guards, Code.isGuard, Code.weight, Code.frames, Code.isCreation, Code.isCaller, Code.cUnits])
theorem over_compS {A : Around} {elt : Expr} {gens : List Comprehension} {scope : Scope} {pos : Pos} {it acc : Value} {env : Env} : A.over (.compStart (.GeneratorExp elt gens scope pos) 0 it acc env) [] = A.deeper env := by
  first
    | rfl
    | (obtain ⟨hd, d, fr, gs, u⟩ := A; simp [Around.over, Around.deeper, marksOver, frameCount, unitsOf, envsOf, guardsOf, pushEnvs, pushGuards, Code.envs, Code.env?, Code.isFrame, Code.guards, Code.isGuard, Code.weight, Code.frames, Code.isCreation, Code.isCaller, Code.cUnits])
end PM
namespace PM
open PySem PySem.Spec PyProof.Rows L2 GenW

/-! ### code objects and their tables, tracked -/
/-- the code object at c: its table stands at P, it bears the name q -/
def CodeX (c P : Addr) (q : Str) : HO := .ext fun h => PySem.W.CodeHd h c P ∧ ∃ (oc : Obj) (vs : Array Value) (t : Tok), h.get? c = some oc ∧ oc.data = .fields vs ∧ vs[1]? = some (.str q t)
theorem codeX_ne {c P : Addr} {q : Str} (ps : Array Value) : CodeX c P q ≠ .tbl ps := fun z => by
  unfold CodeX at z
  cases z
def TabG (H : Hp) (P : Addr) : Prop := ∃ ps : Array Value, H P = some (.tbl ps) ∧ TriplesOk ps.toList
/-- each table holds code objects that bear its name; their own tables are none of these -/
def Tabs (T : List (Addr × Str)) (H : Hp) : Prop := ∀ p ∈ T, ∃ ps : Array Value, H p.1 = some (.tbl ps) ∧ TriplesOk ps.toList ∧
  ∀ (pos : Pos) (cv : Value), codeAmong pos ps.toList = some cv → ∃ c' P', cv = .ref c' ∧ H c' = some (CodeX c' P' p.2) ∧ P' ∉ T.map (·.1) ∧ TabG H P'
/-- all but tables stay -/
def Ext (H H' : Hp) : Prop := ∀ b o, H b = some o → (∀ ps, o ≠ .tbl ps) → H' b = some o
/-- tables may have grown -/
def TabK (H H' : Hp) : Prop := ∀ P, TabG H P → TabG H' P
theorem Ext.refl (H : Hp) : Ext H H := fun _ _ h _ => h
theorem Ext.trans {H H1 H2 : Hp} (a : Ext H H1) (b : Ext H1 H2) : Ext H H2 := fun c o h n => b c o (a c o h n) n
theorem Ext.of {H H' : Hp} (e : Same H H') : Ext H H' := fun b o h _ => e b o h
theorem Ext.new {H : Hp} {p : Addr} {o : HO} (h : H p = none) : Ext H (upd H p o) := fun b u e _ => by
  rw [upd_ne (ne_of_none e h)]
  exact e
theorem Same.new {H : Hp} {p : Addr} {o : HO} (h : H p = none) : Same H (upd H p o) := fun b u e => by
  rw [upd_ne (ne_of_none e h)]
  exact e
theorem TabG.same {H H' : Hp} {P : Addr} (t : TabG H P) (e : Same H H') : TabG H' P := by
  obtain ⟨ps, h1, h2⟩ := t
  exact ⟨ps, e _ _ h1, h2⟩
theorem Tabs.same {T : List (Addr × Str)} {H H' : Hp} (t : Tabs T H) (e : Same H H') : Tabs T H' := fun p hp => by
  obtain ⟨ps, h1, h2, h3⟩ := t p hp
  refine ⟨ps, e _ _ h1, h2, fun pos cv hc => ?_⟩
  obtain ⟨c', P', e1, e2, e3, e4⟩ := h3 pos cv hc
  exact ⟨c', P', e1, e _ _ e2, e3, e4.same e⟩
/-- .. where only what is no table and no code object is written -/
theorem Tabs.upd {T : List (Addr × Str)} {H : Hp} {a : Addr} {o u : HO} (t : Tabs T H) (h : H a = some u) (n1 : ∀ ps, u ≠ .tbl ps) (n2 : ∀ c P q, u ≠ CodeX c P q) : Tabs T (upd H a o) := fun p hp => by
  obtain ⟨ps, h1, h2, h3⟩ := t p hp
  have at_ : ∀ b ps, H b = some (.tbl ps) → L2.upd H a o b = some (.tbl ps) := fun b ps e => by
    rw [upd_ne (fun z => n1 ps (by rw [z, h] at e; exact Option.some.inj e))]
    exact e
  refine ⟨ps, at_ _ _ h1, h2, fun pos cv hc => ?_⟩
  obtain ⟨c', P', e1, e2, e3, ps', e4, e5⟩ := h3 pos cv hc
  refine ⟨c', P', e1, ?_, e3, ps', at_ _ _ e4, e5⟩
  have na : c' ≠ a := fun z => by
    have e9 : H a = H c' := by rw [z]
    rw [h, e2] at e9
    exact n2 _ _ _ (Option.some.inj e9)
  rw [upd_ne na]
  exact e2
theorem Tabs.lst {T : List (Addr × Str)} {H : Hp} {a : Addr} {o : HO} {xs : List V} (t : Tabs T H) (h : H a = some (.lst xs)) : Tabs T (L2.upd H a o) :=
  t.upd h (fun _ z => by cases z) fun _ _ _ z => by unfold CodeX at z; cases z
theorem Ext.seqL {K : PySem.W.Frag} {H H' : Hp} {a : Addr} {xs : List V} (e : Ext H H') (h : SqL K H a xs) : SqL K H' a xs := by
  rcases h with (h | ⟨o, h⟩) | h
  · exact .inl (.inl (e _ _ h fun _ z => by cases z))
  · exact .inl (.inr ⟨o, e _ _ h fun _ z => by cases z⟩)
  · exact .inr h
theorem Ext.seqT {K : PySem.W.Frag} {H H' : Hp} {a : Addr} {xs : List V} (e : Ext H H') (h : SqT K H a xs) : SqT K H' a xs := by
  rcases h with (h | ⟨o, h⟩) | h
  · exact .inl (.inl (e _ _ h fun _ z => by cases z))
  · exact .inl (.inr ⟨o, e _ _ h fun _ z => by cases z⟩)
  · exact .inr h
theorem Ext.lst {H H' : Hp} {a : Addr} {xs : List V} (e : Ext H H') (h : H a = some (.lst xs)) : H' a = some (.lst xs) := e _ _ h fun _ z => by cases z
theorem Ext.tup {H H' : Hp} {a : Addr} {xs : List V} (e : Ext H H') (h : H a = some (.tup xs)) : H' a = some (.tup xs) := e _ _ h fun _ z => by cases z
theorem Same.seqT {K : PySem.W.Frag} {H H' : Hp} {a : Addr} {xs : List V} (e : Same H H') (h : SqT K H a xs) : SqT K H' a xs := (Ext.of e).seqT h

section
variable {X : Cx} {pins : List (Addr × Obj)} {σ : L2.St} {H : Hp} {s : Shared}
/-- the table at P has grown; the code object at c' and its table at P' are new, and known from now on -/
def updC (H : Hp) (P c' P' : Addr) (q : Str) (ps : Array Value) : Hp := upd (upd (upd H P (.tbl ps)) P' (.tbl #[])) c' (CodeX c' P' q)
theorem inv_code {P c' P' : Addr} {q : Str} {ps more : Array Value} {h' : Heap} {t' : Nat} (I : Inv X pins σ H s) (hP : H P = some (.tbl ps)) (k : ∀ b o, b ≠ P → s.heap.get? b = some o → h'.get? b = some o)
    (hm : h'.get? P = some { cls := .none, data := .fields (ps ++ more) }) (hc : s.heap.objs.size ≤ c') (hp : s.heap.objs.size ≤ P') (hd : PySem.W.CodeHd h' c' P') (hq : ∃ (oc : Obj) (vs : Array Value) (t : Tok), h'.get? c' = some oc ∧ oc.data = .fields vs ∧ vs[1]? = some (.str q t))
    (ht : h'.get? P' = some { cls := .none, data := .fields #[] }) :
    Inv X pins σ (updC H P c' P' q (ps ++ more)) { s with heap := h', toks := t' } := by
  have nC : H c' = none := I.hok.fresh hc
  have nQ : H P' = none := I.hok.fresh hp
  have nPc : P ≠ c' := ne_of_none hP nC
  have nPq : P ≠ P' := ne_of_none hP nQ
  have ncq : c' ≠ P' := by
    obtain ⟨_, _, _, _, _, _, _, _, _, _, _, _, _, _, _, _, _, _, z⟩ := hd
    exact z
  have at_ : ∀ b, b ≠ P → b ≠ c' → b ≠ P' → updC H P c' P' q (ps ++ more) b = H b := fun b h1 h2 h3 => by
    unfold updC
    rw [upd_ne h2, upd_ne h3, upd_ne h1]
  have atP : updC H P c' P' q (ps ++ more) P = some (.tbl (ps ++ more)) := by
    unfold updC
    rw [upd_ne nPc, upd_ne nPq, upd_same]
  have nP : ∀ b u, H b = some u → (∀ q, u ≠ .tbl q) → b ≠ P := fun b u e q z => by
    rw [z, hP] at e
    exact q ps (Option.some.inj e).symm
  have nN : ∀ b, H b = none → b ≠ P := fun b e z => by
    rw [z, hP] at e
    cases e
  have lt' : ∀ b o, s.heap.get? b = some o → b ≠ c' := fun b o e z => by
    rw [z] at e
    exact Nat.lt_irrefl _ (Nat.lt_of_lt_of_le (Heap.lt_size e) hc)
  have lt2 : ∀ b o, s.heap.get? b = some o → b ≠ P' := fun b o e z => by
    rw [z] at e
    exact Nat.lt_irrefl _ (Nat.lt_of_lt_of_le (Heap.lt_size e) hp)
  have sm : ∀ b u, H b = some u → b ≠ c' := fun b u e => ne_of_none e nC
  have sm2 : ∀ b u, H b = some u → b ≠ P' := fun b u e => ne_of_none e nQ
  refine I.step (g' := s.gens) (d' := s.drawn) (ch := []) (fun b hb => absurd hb (by simp)) (fun b o _ _ _ e n => k b o (nN b n) e) (fun b o _ _ _ e n => ⟨o.slots, k b o (nN b n) e⟩)
    (fun b o _ e n => by rw [at_ b (nN b n) (lt' b o e) (lt2 b o e)]; exact n) (fun b o _ e => ?_) (fun b xs e => by rw [at_ b (nP b _ e (fun q z => by cases z)) (sm b _ e) (sm2 b _ e)]; exact e) (fun b o u e => by rw [at_ b (nP b _ e (fun q z => by cases z)) (sm b _ e) (sm2 b _ e)]; exact e) (fun b qs e => ?_) (fun m hn => ?_) (fun b u e => ?_) I.bare
  · by_cases hb : b = P
    · rw [hb]
      exact ⟨_, hm⟩
    · exact ⟨o, k b o hb e⟩
  · by_cases hb : b = P
    · rw [hb, hP] at e
      cases e
      rw [hb, atP]
      exact ⟨more, rfl⟩
    · rw [at_ b hb (sm b _ e) (sm2 b _ e), e]
      exact ⟨#[], by simp⟩
  · obtain ⟨ob, es, ep, ho, r⟩ := hn
    exact ⟨ob, es, ep, k _ ob (nN _ I.free) ho, r⟩
  · by_cases hb : b = c'
    · rw [hb] at e ⊢
      unfold updC at e
      rw [upd_same] at e
      cases e
      obtain ⟨oc, vs, t, e1, e2, e3⟩ := hq
      refine ⟨⟨hd, ⟨oc, vs, t, e1, e2, e3⟩⟩, ⟨oc, e1⟩, fun h1 h2 hh st => ?_⟩
      obtain ⟨⟨o, vs', file, tf, flags, tg, inF, text, tt, a1, r⟩, oc', vs2, t2, b1, b2⟩ := hh
      exact ⟨⟨o, vs', file, tf, flags, tg, inF, text, tt, st _ a1, r⟩, oc', vs2, t2, st _ b1, b2⟩
    · by_cases hb3 : b = P'
      · rw [hb3] at e ⊢
        unfold updC at e
        rw [upd_ne (Ne.symm ncq), upd_same] at e
        cases e
        exact ht
      · by_cases hb2 : b = P
        · rw [hb2, atP] at e
          cases e
          rw [hb2]
          exact hm
        · rw [at_ b hb2 hb hb3] at e
          refine (I.hok b u e).stay (fun d v hd q => k d v ?_ q) (fun d q => by rw [at_ d (nP d _ q (fun q z => by cases z)) (sm d _ q) (sm2 d _ q)]; exact q) fun d xs q => by rw [at_ d (nP d _ q (fun q z => by cases z)) (sm d _ q) (sm2 d _ q)]; exact q
          rcases hd with z | z
          · rw [z]
            exact hb2
          · exact nP d _ z (fun q z => by cases z)
theorem updC_ext {P c' P' : Addr} {q : Str} {ps ps' : Array Value} (hP : H P = some (.tbl ps)) (hc : H c' = none) (hp : H P' = none) : Ext H (updC H P c' P' q ps') := fun b o e n => by
  unfold updC
  rw [upd_ne (ne_of_none e hc), upd_ne (ne_of_none e hp), upd_ne (fun z => n ps (Option.some.inj (e.symm.trans (by rw [z]; exact hP))))]
  exact e
theorem updC_tab {P c' P' R : Addr} {q : Str} {ps ps' : Array Value} (hP : H P = some (.tbl ps)) (hc : H c' = none) (hp : H P' = none) (hn : c' ≠ P') (ht : TriplesOk ps'.toList) (h : TabG H R) : TabG (updC H P c' P' q ps') R := by
  obtain ⟨rs, h1, h2⟩ := h
  by_cases hR : R = P
  · refine ⟨ps', ?_, ht⟩
    unfold updC
    rw [hR, upd_ne (ne_of_none hP hc), upd_ne (ne_of_none hP hp), upd_same]
  · refine ⟨rs, ?_, h2⟩
    unfold updC
    rw [upd_ne (ne_of_none h1 hc), upd_ne (ne_of_none h1 hp), upd_ne hR]
    exact h1
/-- the table is one of T -/
theorem tabs_new {T : List (Addr × Str)} {P c' P' : Addr} {q : Str} {ps : Array Value} {pos : Pos} (t : Tabs T H) (hm : (P, q) ∈ T) (hu : ∀ p ∈ T, p.1 = P → p.2 = q) (hP : H P = some (.tbl ps)) (ht : TriplesOk ps.toList) (hc : H c' = none) (hp : H P' = none) (hn : c' ≠ P') :
    Tabs T (updC H P c' P' q (ps ++ #[rawInt pos.line, rawInt pos.col, .ref c'])) := by
  have eL : (ps ++ #[rawInt pos.line, rawInt pos.col, .ref c']).toList = ps.toList ++ [rawInt pos.line, rawInt pos.col, .ref c'] := by simp
  have ht' : TriplesOk (ps ++ #[rawInt pos.line, rawInt pos.col, Value.ref c']).toList := by rw [eL]; exact PySem.TriplesOk_snoc _ _ _ _ ht
  have hE : Ext H (updC H P c' P' q (ps ++ #[rawInt pos.line, rawInt pos.col, .ref c'])) := updC_ext hP hc hp
  have nT : P' ∉ T.map (·.1) := fun z => by
    obtain ⟨p, hp', e⟩ := List.mem_map.mp z
    obtain ⟨ps', h1, _⟩ := t p hp'
    rw [e, hp] at h1
    cases h1
  have old : ∀ (q' : Str) (cv : Value), (∃ c1 P1, cv = .ref c1 ∧ H c1 = some (CodeX c1 P1 q') ∧ P1 ∉ T.map (·.1) ∧ TabG H P1) → ∃ c1 P1, cv = .ref c1 ∧ updC H P c' P' q (ps ++ #[rawInt pos.line, rawInt pos.col, .ref c']) c1 = some (CodeX c1 P1 q') ∧ P1 ∉ T.map (·.1) ∧ TabG (updC H P c' P' q (ps ++ #[rawInt pos.line, rawInt pos.col, .ref c'])) P1 := fun q' cv ⟨c1, P1, e1, e2, e3, e4⟩ =>
    ⟨c1, P1, e1, hE _ _ e2 codeX_ne, e3, updC_tab hP hc hp hn ht' e4⟩
  intro p hp1
  by_cases hb : p.1 = P
  · have hq := hu p hp1 hb
    refine ⟨_, ?_, ht', fun pos' cv hcv => ?_⟩
    · unfold updC
      rw [hb, upd_ne (ne_of_none hP hc), upd_ne (ne_of_none hP hp), upd_same]
    · rw [eL] at hcv
      rcases LamX.among_app _ ht hcv with z | z
      · obtain ⟨ps', h1, h2, h3⟩ := t p hp1
        rw [hb, hP] at h1
        cases h1
        exact old _ _ (h3 pos' cv z)
      · refine ⟨c', P', z, ?_, nT, #[], ?_, trivial⟩
        · unfold updC
          rw [upd_same, hq]
        · unfold updC
          rw [upd_ne (Ne.symm hn), upd_same]
  · obtain ⟨ps', h1, h2, h3⟩ := t p hp1
    refine ⟨ps', ?_, h2, fun pos' cv hcv => old _ _ (h3 pos' cv hcv)⟩
    unfold updC
    rw [upd_ne (ne_of_none h1 hc), upd_ne (ne_of_none h1 hp), upd_ne hb]
    exact h1
/-- the table is none of T -/
theorem tabs_in {T : List (Addr × Str)} {P c' P' : Addr} {q : Str} {ps ps' : Array Value} (t : Tabs T H) (hm : P ∉ T.map (·.1)) (hP : H P = some (.tbl ps)) (ht' : TriplesOk ps'.toList) (hc : H c' = none) (hp : H P' = none) (hn : c' ≠ P') :
    Tabs T (updC H P c' P' q ps') := by
  have hE : Ext H (updC H P c' P' q ps') := updC_ext hP hc hp
  intro p hp1
  obtain ⟨ps1, h1, h2, h3⟩ := t p hp1
  refine ⟨ps1, ?_, h2, fun pos' cv hcv => ?_⟩
  · unfold updC
    rw [upd_ne (ne_of_none h1 hc), upd_ne (ne_of_none h1 hp), upd_ne (fun z => hm (List.mem_map.mpr ⟨p, hp1, z⟩))]
    exact h1
  · obtain ⟨c1, P1, e1, e2, e3, e4⟩ := h3 pos' cv hcv
    exact ⟨c1, P1, e1, hE _ _ e2 codeX_ne, e3, updC_tab hP hc hp hn ht' e4⟩

/-- where the running code's table stands: of the written part, or tracked -/
def CodeAt (X : Cx) (H : Hp) (c P : Addr) : Prop := PySem.W.CodeHd X.base c P ∨ ∃ q, H c = some (CodeX c P q)
theorem CodeAt.hd {c P : Addr} (h : CodeAt X H c P) (I : Inv X pins σ H s) : PySem.W.CodeHd s.heap c P := by
  rcases h with h | ⟨q, h⟩
  · exact h.keeps I.bk
  · exact (I.hok c _ h).1.1
/-- what is known of a generator expression's code object behind its making: H1 the heap -/
structure GenCode (T : List (Addr × Str)) (P : Addr) (H : Hp) (H1 : Hp) : Prop where
  ext : Ext H H1
  tabs : Tabs T H1
  but : ∀ b o, b ≠ P → H b = some o → H1 b = some o
  grow : TabK H H1
/-- a generator expression's code object is made, or found -/
theorem gen_code {T : List (Addr × Str)} {c P : Addr} {q : Str} {pos : Pos} {scope : Scope} {A : Around} {E : Value → Shared → Prop} {Q : Value → Shared → Prop} (I : Inv X pins σ H s) (hcode : X.env.code = .ref c) (hC : CodeAt X H c P) (hG : TabG H P) (hT : Tabs T H)
    (hm : (P, q) ∈ T ∧ (∀ p ∈ T, p.1 = P → p.2 = q) ∨ P ∉ T.map (·.1))
    (h : ∀ (cv : Value) (H1 : Hp) (h' : Heap) (tk : Nat), Inv X pins σ H1 { s with heap := h', toks := tk } → GenCode T P H H1 → (∀ b o, b ≠ P → s.heap.get? b = some o → h'.get? b = some o) → (∀ b o, s.heap.get? b = some o → H b = none → H1 b = none) → s.heap.objs.size ≤ h'.objs.size →
      ((P, q) ∈ T → ∃ c' P', cv = .ref c' ∧ H1 c' = some (CodeX c' P' q) ∧ P' ∉ T.map (·.1) ∧ TabG H1 P') → Q cv { s with heap := h', toks := tk }) :
    wpAny (model X.prog X.w) A (genexprCode X.env pos q scope) Q E s := by
  obtain ⟨ps, hP, ht⟩ := hG
  have cd := hC.hd I
  have hPs : s.heap.get? P = some { cls := .none, data := .fields ps } := I.hok P _ hP
  cases hf : codeAmong pos ps.toList with
  | none =>
    refine wpAny_genexprCodeX hcode (cd.code hPs ht) (cd.tab hPs) hf fun c' h' tk hx hge hlt hco' hrec htab' hnew => ?_
    obtain ⟨P', hgP, hcP, htP⟩ := hnew
    obtain ⟨c2, oc, vs, t, e2, hoc, hd, hv⟩ := hrec
    cases e2
    have hcd' : PySem.W.CodeHd h' c' P' := PySem.W.CodeHd.of hcP htP
    have hn : c' ≠ P' := by
      obtain ⟨_, _, _, _, _, _, _, _, _, _, _, _, _, _, _, _, _, _, z⟩ := hcd'
      exact z
    have nC : H c' = none := I.hok.fresh hge
    have nQ : H P' = none := I.hok.fresh hgP
    have eL : (ps ++ #[rawInt pos.line, rawInt pos.col, .ref c']).toList = ps.toList ++ [rawInt pos.line, rawInt pos.col, .ref c'] := by simp
    have ht' : TriplesOk (ps ++ #[rawInt pos.line, rawInt pos.col, Value.ref c']).toList := by rw [eL]; exact PySem.TriplesOk_snoc _ _ _ _ ht
    have J := inv_code (t' := tk) (q := q) (more := #[rawInt pos.line, rawInt pos.col, .ref c']) I hP (fun b o hb e => hx b o hb e) htab'.2 hge hgP hcd' ⟨oc, vs, t, hoc, hd, hv⟩ htP.2
    refine h _ _ _ _ J ⟨updC_ext hP nC nQ, ?_, fun b o hb e => ?_, fun R hR => updC_tab hP nC nQ hn ht' hR⟩ (fun b o hb e => hx b o hb e) (fun b o e n => ?_) (Nat.le_trans hge (Nat.le_of_lt hlt)) fun hmem => ?_
    · rcases hm with ⟨h1, h2⟩ | h1
      · exact tabs_new hT h1 h2 hP ht nC nQ hn
      · exact tabs_in hT h1 hP ht' nC nQ hn
    · unfold updC
      rw [upd_ne (ne_of_none e nC), upd_ne (ne_of_none e nQ), upd_ne hb]
      exact e
    · have l := Heap.lt_size e
      have n1 : b ≠ c' := Nat.ne_of_lt (Nat.lt_of_lt_of_le l hge)
      have n2 : b ≠ P' := Nat.ne_of_lt (Nat.lt_of_lt_of_le l hgP)
      have n3 : b ≠ P := fun z => by
        rw [z, hP] at n
        cases n
      unfold updC
      rw [upd_ne n1, upd_ne n2, upd_ne n3]
      exact n
    · refine ⟨c', P', rfl, ?_, fun z => ?_, #[], ?_, trivial⟩
      · unfold updC
        rw [upd_same]
      · obtain ⟨p, hp', e⟩ := List.mem_map.mp z
        obtain ⟨ps', h1, _⟩ := hT p hp'
        rw [e, nQ] at h1
        cases h1
      · unfold updC
        rw [upd_ne (Ne.symm hn), upd_same]
  | some cv =>
    refine wpAny_genexprCode_hit hcode (cd.code hPs ht) hf ?_
    refine h cv H s.heap s.toks (I.tok s.toks) ⟨Ext.refl H, hT, fun b o _ e => e, fun _ hR => hR⟩ (fun b o _ e => e) (fun _ _ _ n => n) (Nat.le_refl _) fun hmem => ?_
    obtain ⟨ps', h1, h2, h3⟩ := hT _ hmem
    have h1' : H P = some (.tbl ps') := h1
    rw [hP] at h1'
    cases h1'
    exact h3 pos cv hf
end
end PM
namespace PM
open PySem PySem.Spec PyProof.Rows L2 GenW

/-- the context of a generator expression's own frame: made at s, its iterators at fp, its generator's object pinned -/
abbrev genCx (X : Cx) (s : Shared) (H : Hp) (cenv : Env) (fp : List Addr) (pn : List (Addr × Obj)) : Cx :=
  { X with A := X.A.in1.in1.deeper cenv, s_0 := s, H_0 := H, env := cenv, outer := X.stack, stack := cenv :: X.stack, ex := fp, fn := fun _ => false, pn := pn, xe := fun _ _ => False }
abbrev gEnv (X : Cx) (scope : Scope) (C : Addr) (code : Value) : Env := PySem.genEnv scope (cloFrom X.env.cells scope.names []) C code builtinsNs X.env

section
variable {X : Cx} {pins : List (Addr × Obj)} {σ : L2.St} {H : Hp} {s : Shared}
theorem gen_start {scope : Scope} {own : List (Str × Nat)} {fp : List Addr} {code it : Value} {h' : Heap} {go : Obj} {gs : GenState} {tk : Nat} (I : Inv X pins σ H s) (hc : X.calm = true) (ok : BlkOk X.N X.env.scope scope own) (hN : X.N.Nodup)
    (hfp : ∀ b ∈ fp, FpOk X pins H b ∧ b < s.heap.objs.size) (hcell : ∀ y ∈ scope.names, y.2 ≠ .cell) (hns : h'.Ns s.heap.objs.size fun y => if y = ".0" then some it else none)
    (hsb : Heap.SameBut s.heap.objs.size (s.heap.push { cls := .type "frame", data := .dict #[] }) h') (hgb : gs.bare = true) (hgd : ∀ v, go.data ≠ .cell v) (hgp : ∀ h : Heap, (h.push go).get? h.objs.size = some go) :
    Inv (genCx X s H (gEnv X scope s.heap.objs.size code) fp [(h'.objs.size, go)]) [] (wipe σ (own.map (·.2))) H { s with gens := s.gens.push gs, toks := tk, heap := h'.push go } := by
  have hfree : ∀ y ∈ scope.names, y.2 = .free → ∃ c, X.env.cells.lookup y.1 = some c := fun y hy e => by
    rcases ok.free y hy e with k | k
    · exact I.ok.has _ (.inl k)
    · exact I.ok.has _ (.inr k)
  have hsz : h'.objs.size = s.heap.objs.size + 1 := by rw [hsb.1, Heap.size_push]
  have kp : ∀ b o, s.heap.get? b = some o → (h'.push go).get? b = some o := fun b o e => Heap.get?_push_of_some _ (hsb.extBut b o (Nat.ne_of_lt (Heap.lt_size e)) (Heap.get?_push_of_some _ e))
  have cm : ∀ {y c}, (cloFrom X.env.cells scope.names []).lookup y = some c → X.env.cells.lookup y = some c ∧ c < s.heap.objs.size := fun {y c} hm => by
    rcases cloFrom_mem (PySem.mem_of_lookup hm) with hm | ⟨h1, h2⟩
    · cases hm
    · obtain ⟨c1, hc1⟩ := hfree _ h1 rfl
      have hc1 : X.env.cells.lookup y = some c1 := hc1
      have e2 : c = c1 := by rw [h2, hc1] <;> rfl
      obtain ⟨w, z⟩ := I.cell _ _ hc1
      rw [e2]
      exact ⟨hc1, z.lt⟩
  have look : ∀ {y}, scope.names.lookup y = some .free → ∃ c, (cloFrom X.env.cells scope.names []).lookup y = some c := fun {y} hl =>
    mem_lookup (cloFrom_has (cells := X.env.cells) (acc := []) (PySem.mem_of_lookup hl))
  refine ⟨⟨I.ok.mod, ok.kind, I.ok.glob, rfl, Nat.le_refl _, fun y z c e1 e2 => I.ok.inj y z c (cm e1).1 (cm e2).1, fun y hy => ?_, fun y c z _ => (by cases z), fun h => ?_, ?_, .inr ⟨rfl, rfl⟩, fun b hb => ⟨?_, fun y c e z => ?_⟩, I.bs, Nat.le_trans I.ok.bsz I.sz, fun b o e hb => ?_, fun b hb z => ?_, I.stack, I.stkFree⟩,
    rfl, I.bare.push hgb, Un.kept kp, ⟨_, hns.push go, fun i y av e1 e2 e3 => ?_⟩, fun y c e => ?_, I.hok.fresh (Nat.le_refl _), fun y c e => ?_, fun p hp => ?_, I.hok.kept kp, by rw [wipe_length]; exact I.len⟩
  · have hy : scope.names.lookup y = some .cell ∨ scope.names.lookup y = some .free := hy
    rcases hy with hy | hy
    · exact absurd rfl (hcell _ (PySem.mem_of_lookup hy))
    · exact look hy
  · exact I.ok.hd hc
  · exact Around.frames_deeper (A := X.A.in1.in1) I.ok.frames
  · exact Nat.ne_of_lt (hfp b hb).2
  · exact (hfp b hb).1.2.2.2.2.1 y c (cm e).1 z
  · rcases (hfp b hb).1.2.2.2.1 with z | z
    · exact I.ok.noex b o e z
    · exact absurd (Nat.lt_of_lt_of_le (Heap.lt_size e) (Nat.le_trans I.ok.bsz z)) (Nat.lt_irrefl _)
  · rcases List.mem_cons.mp (I.stkSub b z) with z | z
    · exact (hfp b hb).1.2.1 z
    · exact (hfp b hb).1.2.2.1 z
  · obtain ⟨e2, hne⟩ := wipe_some e2
    have hfr : scope.names.lookup y = some .free := by
      have no : ∀ k, scope.names.lookup y = some k → ¬ (k = .local ∨ k = .cell) := fun k e hh => by
        rcases ok.own _ (PySem.mem_of_lookup e) hh with e' | e'
        · obtain ⟨p, hp, hpy⟩ := List.mem_map.mp e'
          have e3 := ok.ix p hp
          have : p.1 = y := hpy
          rw [this] at e3
          exact hne (List.mem_map.mpr ⟨p, hp, nodup_ix hN e3 e1⟩)
        · exact e' (List.mem_of_getElem? e1)
      have e3 : Vis scope y := e3
      rcases e3 with e3 | e3 | e3
      · exact absurd (.inl rfl) (no _ e3)
      · exact absurd (.inr rfl) (no _ e3)
      · exact e3
    obtain ⟨m, hn, hl⟩ := I.loc
    have hvis : Vis X.env.scope y := (ok.free _ (PySem.mem_of_lookup hfr) rfl).elim (fun k => .inr (.inl k)) (fun k => .inr (.inr k))
    obtain ⟨w, r, q⟩ := hl i y av e1 e2 hvis
    obtain ⟨c, h1⟩ := look hfr
    have h2 := (cm h1).1
    refine ⟨w, r, .inr ⟨.inr hfr, c, h1, ?_⟩⟩
    rcases q with ⟨k, _⟩ | ⟨_, c', e', z⟩
    · have k : X.env.scope.names.lookup y = some .local := k
      rcases ok.free _ (PySem.mem_of_lookup hfr) rfl with k' | k' <;> rw [show X.env.scope.names.lookup y = _ from k'] at k <;> cases k
    · rw [h2] at e'; cases e'
      exact z.keeps kp
  · obtain ⟨w, z⟩ := I.cell y c (cm e).1
    exact ⟨w, z.keeps kp⟩
  · exact I.freeC y c (cm e).1
  · have hp1 : p = (h'.objs.size, go) := by simpa using hp
    rw [hp1]
    have hle : s.heap.objs.size ≤ h'.objs.size := by rw [hsz]; exact Nat.le_succ _
    refine ⟨hgp h', I.hok.fresh hle, ?_, fun z => ?_, hgd⟩
    · show h'.objs.size ≠ s.heap.objs.size
      rw [hsz]
      exact Nat.succ_ne_self _
    · rcases List.mem_cons.mp (I.stkSub _ z) with e | e
      · have h1 := I.lt
        rw [← e] at h1
        exact Nat.lt_irrefl _ (Nat.lt_of_lt_of_le h1 hle)
      · exact I.nofs hle e
end
end PM
namespace PM
open PySem PySem.Spec PyProof.Rows L2 GenW

/-- what is wanted of the next turn: it ends, or it hands out -/
def TurnW (J : It) (g : TG) (te : TE) (vs : List Nat) (σG : L2.St) (i : Nat) (H : Hp) (Ph : Option V → Hp → Prop) : Prop :=
  (J.stop i H ∧ Ph none H) ∨ (J.go i H ∧ ∀ x H', J.yld i H x H' → g x σG H' fun σ2 H2 => wipe σ2 vs = σG ∧ te σ2 H2 fun y H3 => Ph (some y) H3)
abbrev gcode (elt tg iter : Expr) (scope : Scope) (pos : Pos) (it : Addr) (env : Env) : Code := .compLoop (.GeneratorExp elt [⟨tg, iter, [], 0⟩] scope pos) 0 (.ref it) .none env
/-- woken, it goes on with the loop's code -/
def LoopGs (M : Model) (A : Around) (c : Code) (gs : GenState) : Prop := gs.bare = true ∧ ∀ s Re Yi, SegX M A c (M.den c) [] s Re Yi → GoesX M A gs s Re Yi
theorem leaf_next : (pure (.done .next) : Sem PySem.Fin) = leafOf (.ok .next) := rfl

section
variable {X : Cx} {s0 : Shared} {H0 : Hp} {cenv : Env} {fp : List Addr} {pn ps : List (Addr × Obj)}
theorem fpOk_gen {σ' : L2.St} {H' : Hp} {s' : Shared} (I' : Inv (genCx X s0 H0 cenv fp pn) ps σ' H' s') (hpn : ∀ p ∈ pn ++ ps, p.1 ∉ fp) (hn : ∀ b ∈ fp, H' b = none) : ∀ b ∈ fp, FpOk (genCx X s0 H0 cenv fp pn) ps H' b := fun b hb =>
  ⟨hn b hb, (I'.ok.exf b hb).1, I'.ok.exfs b hb, .inl hb, fun x c e => (I'.ok.exf b hb).2 x c e, fun p hp e => hpn p hp (by rw [e]; exact hb)⟩
/-- one turn of the loop, from the waking to what it hands out, or to its end -/
theorem gen_turn {elt tg iter : Expr} {scope : Scope} {pos : Pos} {it : Addr} {J : It} {tn : Nat → Heap → Prop} {g : TG} {te : TE} {vs : List Nat} {σG : L2.St} {i : Nat} {H : Hp} {s : Shared} {Ph : Option V → Hp → Prop}
    (hcalm : X.calm = true) (hco : cenv.scope.isCoroutine = false) (T : Turn X.prog X.w X.K tg J fp it tn) (hpn : ∀ p ∈ pn ++ ps, p.1 ∉ fp) (pg : PG (genCx X s0 H0 cenv fp pn) tg g) (pe : PE (genCx X s0 H0 cenv fp pn) elt te)
    (I : Inv (genCx X s0 H0 cenv fp pn) ps σG H s) (hw : ∀ σ2 : L2.St, wipe σ2 vs = σG → σ2.length = σG.length) (st : tn i s.heap) (hn : ∀ b ∈ fp, H b = none) (h : TurnW J g te vs σG i H Ph) :
    SegX (model X.prog X.w) X.A.in1.in1 (gcode elt tg iter scope pos it cenv) ((model X.prog X.w).den (gcode elt tg iter scope pos it cenv)) [] s
      (fun r s' => r = .ok .next ∧ ∃ H', Inv (genCx X s0 H0 cenv fp pn) ps σG H' s' ∧ Ph none H')
      (fun v gs' s' => ∃ y H', RelV y v ∧ Inv (genCx X s0 H0 cenv fp pn) ps σG H' s' ∧ tn (i + 1) s'.heap ∧ (∀ b ∈ fp, H' b = none) ∧ LoopGs (model X.prog X.w) X.A.in1.in1 (gcode elt tg iter scope pos it cenv) gs' ∧ Ph (some y) H') := by
  have ov : X.A.in1.in1.over (gcode elt tg iter scope pos it cenv) [] = (genCx X s0 H0 cenv fp pn).A := over_comp
  show SegX _ _ _ ((compTurn (.GeneratorExp elt [⟨tg, iter, [], 0⟩] scope pos) 0 (.ref it) .none cenv).onRaise (leaving cenv)) [] s _ _
  rw [compTurn_gen, Sem.onRaise_eq_wrap]
  refine segx_bind_wrap (wpAny_standAt ?_)
  rcases h with ⟨stop, hP⟩ | ⟨go, step⟩
  · refine segx_bind_wrap ?_
    rw [ov]
    refine thnF (T.done (genCx X s0 H0 cenv fp pn) rfl rfl rfl hcalm i ps s _ H (fun _ _ => False) I (fpOk_gen I hpn hn) st stop) fun r s1 ⟨hr, I1⟩ => ?_
    subst hr
    exact segx_end (.ok .next) ⟨rfl, H, I1, hP⟩
  · refine segx_bind_wrap ?_
    rw [ov]
    refine thnF (T.item (genCx X s0 H0 cenv fp pn) rfl rfl rfl hcalm i ps s _ H (fun _ _ => False) I (fpOk_gen I hpn hn) st go) fun r s1 ⟨u, hr, h1⟩ => ?_
    subst hr
    refine segx_bind_wrap ?_
    rw [ov]
    refine thnF h1 fun _ s2 ⟨x, H2, I2, r2, y2, st2, n2⟩ => ?_
    have I2' := I2.pinned (fpOk_gen I2 hpn n2) (T.obj _ _ st2)
    refine segx_bind_wrap ?_
    rw [ov]
    refine thnF (pg.run _ s2 _ H2 x u _ I2' r2 (step x H2 y2)) fun _ s3 ⟨σ3, H3, I3, hw3, q3⟩ => ?_
    simp only [List.forIn_nil]
    refine segx_bind_wrap (wpAny_pure ?_)
    simp only [if_true]
    have hy : ∀ v, yieldOut cenv v = yieldValue v := fun v => by simp only [yieldOut, hco, Bool.false_eq_true, if_false]
    simp only [hy]
    rw [Sem.bind_eq_wrap', Sem.bind_eq_wrap', Sem.wrap_wrap, Sem.wrap_wrap]
    refine segx_wrap ?_
    rw [ov]
    refine thnF (pe.run _ s3 σ3 H3 _ I3 q3) fun v s4 ⟨y, H4, I4, r4, q4⟩ => ?_
    have pin' : ∀ b ∈ fp, ∀ o, s2.heap.get? b = some o → s4.heap.get? b = some o ∧ H4 b = none := fun b hb o e =>
      let z := I4.pin (b, o) (List.mem_append_right _ (List.mem_append_right _ (mem_pinsAt hb e)))
      ⟨z.1, z.2.1⟩
    have J4 : Inv (genCx X s0 H0 cenv fp pn) ps σG H4 s4 := (I4.unpinned (pins := ps)).weak (hw σ3 hw3).symm fun j v e => by
      rw [← hw3] at e
      exact (wipe_some e).1
    refine segx_at (segx_yield rfl rfl rfl fun p => ⟨y, H4, r4, J4, T.keep _ _ _ st2 fun b hb o e => (pin' b hb o e).1, fun b hb => ?_, ⟨rfl, fun s'' Re' Yi' hl => segx_again rfl hl⟩, q4⟩)
    obtain ⟨o, e, _⟩ := T.obj _ _ st2 b hb
    exact (pin' b hb o e).2
/-- the fresh generator goes on with the loop's code, too -/
theorem gen_fresh {elt tg iter : Expr} {scope : Scope} {pos : Pos} {it : Addr} {J : It} {tn : Nat → Heap → Prop} {i : Nat} {s : Shared} {Re : Result → Shared → Prop} {Yi : Value → GenState → Shared → Prop}
    (T : Turn X.prog X.w X.K tg J fp it tn) (st : tn i s.heap)
    (loop : SegX (model X.prog X.w) X.A.in1.in1 (gcode elt tg iter scope pos it cenv) ((model X.prog X.w).den (gcode elt tg iter scope pos it cenv)) [] s Re Yi) :
    SegX (model X.prog X.w) X.A.in1.in1 (.compStart (.GeneratorExp elt [⟨tg, iter, [], 0⟩] scope pos) 0 (.ref it) .none cenv) ((model X.prog X.w).den (.compStart (.GeneratorExp elt [⟨tg, iter, [], 0⟩] scope pos) 0 (.ref it) .none cenv)) [] s Re Yi := by
  show SegX _ _ _ ((compStart (.GeneratorExp elt [⟨tg, iter, [], 0⟩] scope pos) 0 (.ref it) .none cenv).onRaise (leaving cenv)) [] s _ _
  unfold compStart
  rw [Sem.onRaise_eq_wrap]
  show SegX _ _ _ ((ask >>= _).wrap _ _ _ _) [] s _ _
  refine segx_bind_wrap (wpAny_askSetting ?_)
  split
  · exact segx_again rfl loop
  · first
      | exact segx_bind_wrap (wpAny_rule (segx_bind_wrap (wpAny_standAt (segx_bind_wrap (T.self _ i s _ _ st (segx_again rfl loop))))))
      | (refine segx_bind_wrap (wpAny_rule ?_); show SegX _ _ _ ((standAt iter.pos >>= _).wrap _ _ _ _) [] s _ _; exact segx_bind_wrap (wpAny_standAt (segx_bind_wrap (T.self _ i s _ _ st (segx_again rfl loop)))))
end
end PM
namespace PM
open PySem PySem.Spec PyProof.Rows L2 GenW

section
variable {X : Cx} {s0 : Shared} {H0 : Hp} {cenv : Env} {fp : List Addr} {go : Obj}
/-- the generator at a sleeps ahead of its i-th turn -/
structure GAt (X : Cx) (s0 : Shared) (H0 : Hp) (cenv : Env) (fp : List Addr) (go : Obj) (c : Code) (tn : Nat → Heap → Prop) (σG : L2.St) (ps : List (Addr × Obj)) (a : Addr) (g : Nat) (i : Nat) (H : Hp) (s : Shared) : Prop where
  inv : Inv (genCx X s0 H0 cenv fp [(a, go)]) ps σG H s
  st : tn i s.heap
  nf : ∀ b ∈ fp, H b = none
  gs : ∃ gs, s.gens[g]? = some gs ∧ gs.bare = true ∧ ∀ s1 j, tn j s1.heap → ∀ Re Yi, SegX (model X.prog X.w) X.A.in1.in1 c ((model X.prog X.w).den c) [] s1 Re Yi → GoesX (model X.prog X.w) X.A.in1.in1 gs s1 Re Yi

theorem inv_gens {X : Cx} {pins : List (Addr × Obj)} {σ : L2.St} {H : Hp} {s : Shared} {g : Nat} {gs : GenState} (I : Inv X pins σ H s) (hb : gs.bare = true) : Inv X pins σ H (s.setGen g gs) := by
  obtain ⟨h, gn, d, t, o⟩ := s
  exact I.step (h' := h) (g' := (Shared.setGen ⟨h, gn, d, t, o⟩ g gs).gens) (t' := t) (d' := d) (ch := []) (fun b hb => absurd hb (by simp)) (fun _ _ _ _ _ e _ => e) (fun b o _ _ _ e _ => ⟨o.slots, e⟩) (fun _ _ _ _ n => n) (fun b o _ e => ⟨o, e⟩)
    (fun _ _ e => e) (fun _ _ _ e => e) (fun b ps e => ⟨#[], by rw [e]; simp⟩) (fun m hm => hm) I.hok (allBare_setGen I.bare hb)
/-- a record of ours that is pinned is written, and pinned again -/
theorem inv_scratch {X : Cx} {σ : L2.St} {H : Hp} {s : Shared} {h' : Heap} {S : Addr} {o o' : Obj} {t' : Nat} (I : Inv X [(S, o)] σ H s) (hs : X.s_0.heap.objs.size ≤ S) (hpn : ∀ p ∈ X.pn, p.1 ≠ S) (hc : ∀ x c, X.env.cells.lookup x = some c → c ≠ S)
    (k : ∀ b u, b ≠ S → s.heap.get? b = some u → h'.get? b = some u) (e : h'.get? S = some o') (hd : ∀ v, o'.data ≠ .cell v) : Inv X [(S, o')] σ H { s with heap := h', toks := t' } := by
  obtain ⟨_, h2, h3, h4, _⟩ := I.pin (S, o) (List.mem_append_right _ (List.mem_singleton.mpr rfl))
  have I0 : Inv X [] σ H s := I.pins_of fun p hp => absurd hp (by simp)
  have J : Inv X [] σ H { s with heap := h', toks := t' } := I0.turned (it := S) k h2 h3 (.inr hs) hc fun p hp => by
    rw [List.append_nil] at hp
    exact hpn p hp
  exact J.pins_of fun p hp => by
    rw [List.mem_singleton.mp hp]
    exact ⟨e, h2, h3, h4, hd⟩
/-- the next item is asked for -/
theorem gen_next {elt tg iter : Expr} {scope : Scope} {pos : Pos} {it : Addr} {J : It} {tn : Nat → Heap → Prop} {g : TG} {te : TE} {vs : List Nat} {σG : L2.St} {i : Nat} {H : Hp} {s : Shared} {Ph : Option V → Hp → Prop} {ps : List (Addr × Obj)} {a : Addr} {gi k : Nat} {E : Value → Shared → Prop}
    (hr : Room (k + 1) X.A) (hcalm : X.calm = true) (hco : cenv.scope.isCoroutine = false) (T : Turn X.prog X.w X.K tg J fp it tn) (hpn : a ∉ fp) (hps : ∀ p ∈ ps, p.1 ∉ fp) (hgen : ∀ h : Heap, h.get? a = some go → h.IsGen a gi) (pg : PG (genCx X s0 H0 cenv fp [(a, go)]) tg g) (pe : PE (genCx X s0 H0 cenv fp [(a, go)]) elt te)
    (hw : ∀ σ2 : L2.St, wipe σ2 vs = σG → σ2.length = σG.length) (G : GAt X s0 H0 cenv fp go (gcode elt tg iter scope pos it cenv) tn σG ps a gi i H s) (h : TurnW J g te vs σG i H Ph) :
    wpAny (model X.prog X.w) X.A.in1 (pyNext (.ref a)) (fun r s' => match r with
      | none => ∃ H', Inv (genCx X s0 H0 cenv fp [(a, go)]) ps σG H' s' ∧ Ph none H'
      | some u => ∃ y H', RelV y u ∧ Ph (some y) H' ∧ GAt X s0 H0 cenv fp go (gcode elt tg iter scope pos it cenv) tn σG ps a gi (i + 1) H' s') E s := by
  obtain ⟨I, st, nf, gs, hgs, hb, hgo⟩ := G
  have hgl : gi < s.gens.size := (Array.getElem?_eq_some_iff.mp hgs).1
  have pin : ∀ {σ' : L2.St} {H' : Hp} {s' : Shared}, Inv (genCx X s0 H0 cenv fp [(a, go)]) ps σ' H' s' → s'.heap.IsGen a gi := fun {σ' H' s'} J' => hgen _ (J'.pin (a, go) (List.mem_append_left _ (List.mem_singleton.mpr rfl))).1
  have Ir := inv_gens (g := gi) (gs := .running) I rfl
  have str : tn i (s.setGen gi .running).heap := st
  have hd : X.A.handled = none := hr.hd
  refine wpAny_gsz (n := gi + 1) hgl (next_genX (gs := gs) (Fi := fun s' => ∃ H', Inv (genCx X s0 H0 cenv fp [(a, go)]) ps σG H' s' ∧ Ph none H') hd I.nolimit hr.depth (pin I) hgs (hgo _ i str _ _ (gen_turn hcalm hco T (fun p hp => by
      rcases List.mem_append.mp hp with hp | hp
      · rw [List.mem_singleton.mp hp]
        exact hpn
      · exact hps p hp) pg pe Ir hw str nf h)) (fun v s1 gs' hb' hv => ?_) (fun s1 hp h' hk => ?_))
  · intro hsz
    obtain ⟨y, H', rv, I', st', nf', hl, q⟩ := hv
    have hsz1 : gi < s1.gens.size := by
      have q2 : (s1.setGen gi gs').gens.size = s1.gens.size := setGen_size _ _ _
      have hsz' : gi + 1 ≤ (s1.setGen gi gs').gens.size := hsz
      omega
    exact ⟨y, H', rv, q, inv_gens I' hb', st', nf', gs', setGen_at hsz1, hb', fun s2 j _ Re Yi hs => hl.2 s2 Re Yi hs⟩
  · intro _
    obtain ⟨H', I', q⟩ := hp
    exact ⟨H', (inv_gens (g := gi) (gs := .finished) I' rfl).kept (t' := s1.toks) hk, q⟩
/-- back in the context of the def -/
theorem gen_back {pins : List (Addr × Obj)} {σ : L2.St} {pn ps : List (Addr × Obj)} {σG : L2.St} {H : Hp} {s : Shared} (I0 : Inv X pins σ H0 s0) (hfp : ∀ b ∈ fp, FpOk X pins H0 b) (I : Inv (genCx X s0 H0 cenv fp pn) ps σG H s) : Inv X pins σ H s :=
  I0.call' (ch := fp) I.os I.base I.hok I.bare fun b hb => ⟨(hfp b hb).2.2.2.1, (hfp b hb).2.1, (hfp b hb).2.2.2.2.1, (hfp b hb).2.2.2.2.2⟩

/-- what a generator expression asks ahead of its first turn: its def's table; K: what follows, of its code and the heap -/
def tGenC (T : List (Addr × Str)) (X : Cx) (q : Str) (K : Value → Hp → Prop) : Hp → Prop := fun H =>
  ∃ c P, X.env.code = .ref c ∧ CodeAt X H c P ∧ TabG H P ∧ Tabs T H ∧ ((P, q) ∈ T ∧ (∀ p ∈ T, p.1 = P → p.2 = q) ∨ P ∉ T.map (·.1)) ∧
    ∀ cv H1, GenCode T P H H1 → ((P, q) ∈ T → ∃ c' P', cv = .ref c' ∧ H1 c' = some (CodeX c' P' q) ∧ P' ∉ T.map (·.1) ∧ TabG H1 P') → K cv H1
/-- a generator expression's names -/
structure GenOk (X : Cx) (scope : Scope) (own : List (Str × Nat)) : Prop where
  blk : BlkOk X.N X.env.scope scope own
  co : scope.isCoroutine = false
  cell : ∀ y ∈ scope.names, y.2 ≠ .cell
  dot : scope.names.lookup (".0" : Str) = some NameKind.local
/-- a generator that stands ready: all that its consumer may ask -/
structure Ready (X : Cx) (pins : List (Addr × Obj)) (σ : L2.St) (elt tg iter : Expr) (scope : Scope) (own : List (Str × Nat)) (pos : Pos) (J : It) (cv : Value) (H : Hp) (a : Addr) (s : Shared) (s3 : Shared) (C : Addr) (fp : List Addr) (tn : Nat → Heap → Prop) (it : Addr) (go : Obj) (gi : Nat) : Prop where
  inv : Inv X pins σ H s3
  fp_ : ∀ b ∈ fp, FpOk X pins H b
  tu : Turn X.prog X.w X.K tg J fp it tn
  gat : GAt X s3 H (gEnv X scope C cv) fp go (gcode elt tg iter scope pos it (gEnv X scope C cv)) tn (wipe σ (own.map (·.2))) [] a gi 0 H s
  apart : a ∉ fp
  gen : ∀ h : Heap, h.get? a = some go → h.IsGen a gi
  lt : ∀ b ∈ fp, b < s.heap.objs.size
  isg : s.heap.IsGen a gi
theorem gen_make {X : Cx} {pins : List (Addr × Obj)} {σ : L2.St} {H : Hp} {s : Shared} {T : List (Addr × Str)} {elt tg iter : Expr} {scope : Scope} {own : List (Str × Nat)} {gpos : Pos} {wi : TI} {k : Nat} {P0 : Addr} {KK : It → Value → Hp → Prop} {Q' : Value → Shared → Prop}
    (hr : Room (k + 3) X.A) (hc : X.calm = true) (hN : X.N.Nodup) (hB : X.base.BuiltinsAt X.mg P0) (hi : PI X tg iter wi) (ok : GenOk X scope own)
    (hs : ∀ v, genFold iter X.env v = pure v) (I : Inv X pins σ H s) (h : wi σ H fun J H1 => tGenC T X (X.env.qual ++ "<genexpr>") (KK J) H1)
    (hQ : ∀ J cv H2 a s5 s3 C fp tn it go gi, Ready X pins σ elt tg iter scope own gpos J cv H2 a s5 s3 C fp tn it go gi → KK J cv H2 → Q' (.ref a) s5) :
    wpAny (model X.prog X.w) X.A (eval (.GeneratorExp elt [⟨tg, iter, [], 0⟩] scope gpos) X.env) Q' X.xe s := by
  have hfree : ∀ y ∈ scope.names, y.2 = .free → ∃ c, X.env.cells.lookup y.1 = some c := fun y hy e => by
    rcases ok.blk.free y hy e with k | k
    · exact I.ok.has _ (.inl k)
    · exact I.ok.has _ (.inr k)
  refine wpAny_GeneratorExp_make ok.co (closure_ok hfree) ok.cell ok.dot ok.blk.kind hr.depth ?_ hs
  refine thn (hi.run pins s σ H _ I h) fun xv s1 hx => thn hx fun itv s2 h2 => ?_
  obtain ⟨it, fp, tn, J, H2, e, I2, Tu, st2, f2, c, P, hcode, hC, hG, hT, hmT, q⟩ := h2
  subst e
  refine ⟨I2.nolimit, ?_⟩
  refine gen_code I2 hcode hC hG hT hmT fun cv H3 h3 tk I3 gc hk hfr hsz hcv => ?_
  have hK := q cv H3 gc hcv
  obtain ⟨bm, ob, b1, b2, b3, b4, b5, b6, b7, b8⟩ := hB
  refine wpAny_builtinsFor (m := X.mg) (by rw [I3.ok.glob]; exact I3.mod.glob.keeps I3.bk) b1 b2 (I3.bk _ _ b5) b6 b7 b8 ?_
  intro h' hns hsb
  have nP : ∀ b ∈ fp, b ≠ P := fun b hb z => by
    obtain ⟨ps, hp, _⟩ := hG
    have := (f2 b hb).1
    rw [z, hp] at this
    cases this
  have st3 : tn 0 h3 := Tu.keep _ _ _ st2 fun b hb o e => hk b o (nP b hb) e
  have f3 : ∀ b ∈ fp, FpOk X pins H3 b ∧ b < h3.objs.size := fun b hb => by
    obtain ⟨o, e, _⟩ := Tu.obj _ _ st2 b hb
    refine ⟨⟨?_, (f2 b hb).2⟩, Nat.lt_of_lt_of_le (Heap.lt_size e) hsz⟩
    exact hfr b o e (f2 b hb).1
  obtain ⟨go, hgo⟩ : ∃ go : Obj, go = { cls := .type "generator", data := .fields #[.int s2.gens.size 0, .str "<genexpr>" (tk + 1), .str (X.env.qual ++ "<genexpr>") (tk + 1 + 1)] } := ⟨_, rfl⟩
  have hgp : ∀ h : Heap, (h.push go).get? h.objs.size = some go := fun h => by
    subst hgo
    exact Heap.get?_push_size _ rfl
  have hgd : ∀ v, go.data ≠ .cell v := fun v z => by
    subst hgo
    cases z
  have hgen : ∀ (a : Addr) (h : Heap), h.get? a = some go → h.IsGen a s2.gens.size := fun a h e => by
    subst hgo
    exact ⟨_, _, _, e, rfl, rfl, rfl⟩
  have J0 : Inv (genCx X { s2 with heap := h3, toks := tk } H3 (gEnv X scope h3.objs.size cv) fp [(h'.objs.size, go)]) [] (wipe σ (own.map (·.2))) H3
      { s2 with gens := s2.gens.push (.fresh (.compStart (.GeneratorExp elt [⟨tg, iter, [], 0⟩] scope gpos) 0 (.ref it) .none (gEnv X scope h3.objs.size cv))), toks := tk + 1 + 1 + 1, heap := h'.push go } :=
    gen_start (code := cv) (it := .ref it) (go := go) (gs := .fresh (.compStart (.GeneratorExp elt [⟨tg, iter, [], 0⟩] scope gpos) 0 (.ref it) .none (gEnv X scope h3.objs.size cv))) (tk := tk + 1 + 1 + 1) (h' := h') I3 hc ok.blk hN f3 ok.cell hns hsb rfl hgd hgp
  have hsz' : h'.objs.size = h3.objs.size + 1 := by rw [hsb.1, Heap.size_push]
  have st5 : tn 0 (h'.push go) := Tu.keep _ _ _ st3 fun b hb o e => Heap.get?_push_of_some _ (hsb.extBut b o (Nat.ne_of_lt (Heap.lt_size e)) (Heap.get?_push_of_some _ e))
  have hpn : h'.objs.size ∉ fp := fun z => by
    have h9 := (f3 _ z).2
    rw [hsz'] at h9
    exact absurd h9 (Nat.not_lt.mpr (Nat.le_succ _))
  have G : GAt X { s2 with heap := h3, toks := tk } H3 (gEnv X scope h3.objs.size cv) fp go (gcode elt tg iter scope gpos it (gEnv X scope h3.objs.size cv)) tn (wipe σ (own.map (·.2))) [] h'.objs.size s2.gens.size 0 H3
      { s2 with gens := s2.gens.push (.fresh (.compStart (.GeneratorExp elt [⟨tg, iter, [], 0⟩] scope gpos) 0 (.ref it) .none (gEnv X scope h3.objs.size cv))), toks := tk + 1 + 1 + 1, heap := h'.push go } :=
    ⟨J0, st5, fun b hb => (f3 b hb).1.1, _, Array.getElem?_push_size .., rfl, fun s1 j stj Re Yi hl => gen_fresh Tu stj hl⟩
  have hlt : ∀ b ∈ fp, b < (h'.push go).objs.size := fun b hb => by
    have h9 := (f3 b hb).2
    have e1 : (h'.push go).objs.size = h3.objs.size + 1 + 1 := by rw [Heap.size_push, hsz']
    rw [e1]
    exact Nat.lt_succ_of_lt (Nat.lt_succ_of_lt h9)
  have R : Ready X pins σ elt tg iter scope own gpos J cv H3 h'.objs.size _ _ h3.objs.size fp tn it go s2.gens.size := ⟨I3, fun b hb => (f3 b hb).1, Tu, G, hpn, hgen _, hlt, hgen _ _ (hgp h')⟩
  have fin := hQ J cv H3 h'.objs.size _ _ _ fp tn it go _ R hK
  subst hgo
  exact fin
theorem wipe_len2 (σ : L2.St) (vs : List Nat) : ∀ σ2 : L2.St, wipe σ2 vs = wipe σ vs → σ2.length = (wipe σ vs).length := fun σ2 e => by
  rw [← e, wipe_length]

/-! ### any -/
/-- what any wants of what comes -/
def AnyK (Q : VK) (W : Nat → Nat → Hp → Prop) (i m : Nat) : Option V → Hp → Prop := fun o H =>
  match o with
  | none => Q (.bl false) H
  | some y => ∃ b, y = .bl b ∧ if b = true then Q (.bl true) H else ∃ m', m' < m ∧ W (i + 1) m' H
theorem any_loop {elt tg iter : Expr} {scope : Scope} {pos : Pos} {it : Addr} {J : It} {tn : Nat → Heap → Prop} {g : TG} {te : TE} {vs : List Nat} {σ σG : L2.St} {a : Addr} {gi k : Nat} {pins : List (Addr × Obj)} {Q : VK} {R : Result → Shared → Prop}
    (I0 : Inv X pins σ H0 s0) (hfp : ∀ b ∈ fp, FpOk X pins H0 b)
    (hr : Room (k + 1) X.A) (hcalm : X.calm = true) (hco : cenv.scope.isCoroutine = false) (T : Turn X.prog X.w X.K tg J fp it tn) (hpn : a ∉ fp) (hgen : ∀ h : Heap, h.get? a = some go → h.IsGen a gi) (pg : PG (genCx X s0 H0 cenv fp [(a, go)]) tg g) (pe : PE (genCx X s0 H0 cenv fp [(a, go)]) elt te)
    (hw : ∀ σ2 : L2.St, wipe σ2 vs = σG → σ2.length = σG.length) (W : Nat → Nat → Hp → Prop) (hW : ∀ i m H, W i m H → TurnW J g te vs σG i H (AnyK Q W i m))
    (hR : ∀ b H s, Inv X pins σ H s → Q (.bl b) H → R (.ok (.ret (.bool b))) s) :
    ∀ (m i : Nat) (H : Hp) (s : Shared), GAt X s0 H0 cenv fp go (gcode elt tg iter scope pos it cenv) tn σG [] a gi i H s → W i m H → codeAny (model X.prog X.w) X.A (.builtin "any.loop" ⟨[.ref a], []⟩) R s := by
  intro m
  induction m using Nat.strongRecOn with
  | _ m ih =>
    intro i H s G hWi
    refine codeAny_builtin PySem.F.entry_any_loop ?_
    rw [Around.under_plainId PySem.F.plain_any_loop _]
    show wpAny _ X.A.in1 (pyNext (.ref a) >>= _) _ _ s
    refine wpAny_bind (thn (gen_next hr hcalm hco T hpn (fun p hp => absurd hp (by simp)) hgen pg pe hw G (hW i m H hWi)) fun r s1 h1 => ?_)
    cases r with
    | none =>
      obtain ⟨H', I', q⟩ := h1
      refine wpAny_bind (wpAny_rule (wpAny_pure ?_))
      exact hR false H' s1 (gen_back I0 hfp I') q
    | some u =>
      obtain ⟨y, H', rv, ⟨b, e, q⟩, G'⟩ := h1
      subst e
      cases rv
      refine wpAny_bind (wpAny_holding (wpAny_truthy_bool ?_))
      refine wpAny_bind (wpAny_letGo ?_)
      cases b with
      | false =>
        simp only [Bool.false_eq_true, if_false] at q ⊢
        obtain ⟨m', hm, w'⟩ := q
        exact wpAny_pure ⟨plainId_quiet PySem.F.plain_any_loop _, ih m' hm (i + 1) H' s1 G' w'⟩
      | true =>
        simp only [if_true] at q ⊢
        refine wpAny_bind (wpAny_rule (wpAny_pure ?_))
        exact hR true H' s1 (gen_back I0 hfp G'.inv) q
end

/-- any(elt for tg in iter) -/
def KAny (g : TG) (te : Value → TE) (vs : List Nat) (σ : L2.St) (Q : VK) : It → Value → Hp → Prop := fun J cv H2 =>
  ∃ W : Nat → Nat → Hp → Prop, (∃ m, W 0 m H2) ∧ ∀ i m H, W i m H → TurnW J g (te cv) vs (wipe σ vs) i H (AnyK Q W i m)
def tAnyG (T : List (Addr × Str)) (X : Cx) (q : Str) (wi : TI) (g : TG) (te : Value → TE) (vs : List Nat) : TE := fun σ H Q => wi σ H fun J H1 => tGenC T X q (KAny g te vs σ Q J) H1
section
variable {X : Cx} {T : List (Addr × Str)} {elt tg iter : Expr} {scope : Scope} {own : List (Str × Nat)} {p pos gpos : Pos} {wi : TI} {g : TG} {te : Value → TE} {k : Nat} {P0 : Addr}
theorem pe_anyG (hr : Room (k + 3) X.A) (hc : X.calm = true) (hN : X.N.Nodup) (hg : Gl X "any") (hm : X.mg "any" = none) (hB : X.base.BuiltinsAt X.mg P0) (hi : PI X tg iter wi) (ok : GenOk X scope own)
    (pg : ∀ (s : Shared) (H : Hp) (C : Addr) (cv : Value) (fp : List Addr) (pn : List (Addr × Obj)), PG (genCx X s H (gEnv X scope C cv) fp pn) tg g)
    (pe : ∀ (s : Shared) (H : Hp) (C : Addr) (cv : Value) (fp : List Addr) (pn : List (Addr × Obj)), Room k (genCx X s H (gEnv X scope C cv) fp pn).A → PE (genCx X s H (gEnv X scope C cv) fp pn) elt (te cv))
    (hs : ∀ v, genFold iter X.env v = pure v)
    (he : starEach [.GeneratorExp elt [⟨tg, iter, [], 0⟩] scope gpos] X.env = (false, eval (.GeneratorExp elt [⟨tg, iter, [], 0⟩] scope gpos) X.env) :: starEach [] X.env := by rfl) :
    PE X (.Call (.Name "any" p) [.GeneratorExp elt [⟨tg, iter, [], 0⟩] scope gpos] [] pos) (tAnyG T X (X.env.qual ++ "<genexpr>") wi g te (own.map (·.2))) := by
  refine ⟨fun pins s σ H Q I h => ?_⟩
  refine wpAny_Call_Name_kw (ld_blt I hg hm boot_any ?_)
  refine PyProof.Rows.callWith_builtin1 ?_ he (by rfl)
  rw [he]
  show wpAny _ _ (spliced ((false, eval (.GeneratorExp elt [⟨tg, iter, [], 0⟩] scope gpos) X.env) :: backTo pos (starEach [] X.env))) _ _ s
  refine Calls.spliced_cons (gen_make (T := T) (KK := KAny g te (own.map fun (x : Str × Nat) => x.2) σ Q) hr hc hN hB hi ok hs I h fun J cv H2 a s5 s3 C fp tn it go gi R ⟨W, ⟨m0, w0⟩, hW⟩ => ?_)
  refine Calls.spliced_nil ?_
  refine call_function_tree PySem.F.kind_any PySem.F.plain_any PySem.F.entry_any (PySem.F.args_any1 _) ?_
  unfold Builtin.«any»
  refine wpAny_bind (m := oneArg "any" _) (wpAny_pure ?_)
  refine wpAny_bind (wpAny_pyIter_gen R.isg ?_)
  refine wpAny_pure ⟨plainId_quiet PySem.F.plain_any_loop _, ?_⟩
  have hrA : Room k (genCx X s3 H2 (gEnv X scope C cv) fp [(a, go)]).A := (hr.in1.in1).deeper _
  refine codeAny_mono (any_loop (X := X) (Q := Q) (R := fun r s' => ∃ v, r = .ok (.ret v) ∧ EP X pins σ Q v s') R.inv R.fp_ hr hc (show (gEnv X scope C cv).scope.isCoroutine = false from ok.co) R.tu R.apart R.gen (pg s3 H2 C cv fp _) (pe s3 H2 C cv fp _ hrA) (wipe_len2 _ _) W hW
    (fun b H' s' I' q' => ⟨_, rfl, .bl b, H', I', rfl, q'⟩) m0 0 H2 _ R.gat w0) fun r s' hq => ?_
  obtain ⟨v, rfl, hq⟩ := hq
  exact hq
end
end PM
namespace PM
open PySem PySem.Spec PyProof.Rows L2 GenW

section
variable {X : Cx} {s0 : Shared} {H0 : Hp} {cenv : Env} {fp : List Addr} {go : Obj}
/-- what the consumer's own record asks: it is none of the generator's things -/
structure Scr (X : Cx) (s0 : Shared) (cenv : Env) (fp : List Addr) (a S : Addr) : Prop where
  le : s0.heap.objs.size ≤ S
  ne : a ≠ S
  nfp : S ∉ fp
  cell : ∀ x c, cenv.cells.lookup x = some c → c ≠ S
theorem GAt.scratch {c : Code} {tn : Nat → Heap → Prop} {σG : L2.St} {a : Addr} {g i : Nat} {H : Hp} {s : Shared} {tg : Expr} {J : It} {it : Addr} {o : Obj} {tk : Nat} (G : GAt X s0 H0 cenv fp go c tn σG [] a g i H s) (T : Turn X.prog X.w X.K tg J fp it tn) (hlt : ∀ b ∈ fp, b < s.heap.objs.size)
    (hd : ∀ v, o.data ≠ .cell v) (ho : ∀ h : Heap, (h.push o).get? h.objs.size = some o) : GAt X s0 H0 cenv fp go c tn σG [(s.heap.objs.size, o)] a g i H { s with heap := s.heap.push o, toks := tk } ∧ Scr X s0 cenv fp a s.heap.objs.size := by
  obtain ⟨I, st, nf, gs, hgs, hb, hgo⟩ := G
  have kp : ∀ b u, s.heap.get? b = some u → (s.heap.push o).get? b = some u := fun b u e => Heap.get?_push_of_some _ e
  have I1 : Inv (genCx X s0 H0 cenv fp [(a, go)]) [] σG H { s with heap := s.heap.push o, toks := tk } := I.kept kp
  have hf := I.fpOk (H' := H) (b := s.heap.objs.size) (Nat.le_refl _) (I.hok.fresh (Nat.le_refl _))
  obtain ⟨f0, f1, f2, f3, f4, f5⟩ := hf
  refine ⟨⟨I1.pins_of fun p hp => ?_, T.keep _ _ _ st fun b hb u e => kp b u e, nf, gs, hgs, hb, hgo⟩, ⟨I.sz, ?_, fun hm => absurd (hlt _ hm) (Nat.lt_irrefl _), f4⟩⟩
  · rw [List.mem_singleton.mp hp]
    exact ⟨ho _, f0, f1, f2, hd⟩
  · exact f5 (a, go) (List.mem_append_left _ (List.mem_singleton.mpr rfl))
theorem GAt.write {c : Code} {tn : Nat → Heap → Prop} {σG : L2.St} {a S : Addr} {g i : Nat} {H : Hp} {s : Shared} {tg : Expr} {J : It} {it : Addr} {o o' : Obj} {h' : Heap} {tk : Nat} (G : GAt X s0 H0 cenv fp go c tn σG [(S, o)] a g i H s) (T : Turn X.prog X.w X.K tg J fp it tn) (sc : Scr X s0 cenv fp a S)
    (k : ∀ b u, b ≠ S → s.heap.get? b = some u → h'.get? b = some u) (e : h'.get? S = some o') (hd : ∀ v, o'.data ≠ .cell v) : GAt X s0 H0 cenv fp go c tn σG [(S, o')] a g i H { s with heap := h', toks := tk } := by
  obtain ⟨I, st, nf, gs, hgs, hb, hgo⟩ := G
  refine ⟨inv_scratch (t' := tk) I sc.le (fun p hp => ?_) sc.cell k e hd, T.keep _ _ _ st fun b hb u e => k b u (fun z => sc.nfp (by rw [← z]; exact hb)) e, nf, gs, hgs, hb, hgo⟩
  rw [List.mem_singleton.mp hp]
  exact sc.ne
theorem GAt.pin {c : Code} {tn : Nat → Heap → Prop} {σG : L2.St} {a S : Addr} {g i : Nat} {H : Hp} {s : Shared} {o : Obj} (G : GAt X s0 H0 cenv fp go c tn σG [(S, o)] a g i H s) : s.heap.get? S = some o :=
  (G.inv.pin (S, o) (List.mem_append_right _ (List.mem_singleton.mpr rfl))).1

/-! ### sum -/
/-- what sum wants of what comes -/
def SumK (Q : VK) (W : Nat → Nat → Int → Hp → Prop) (i m : Nat) (acc : Int) : Option V → Hp → Prop := fun o H =>
  match o with
  | none => Q (.int acc) H
  | some y => ∃ n, y = .int n ∧ ∃ m', m' < m ∧ W (i + 1) m' (acc + n) H
abbrev accObj (vs : Array Value) (c : Nat) : Obj := { cls := .type "list", dict := none, data := .seq vs c, slots := #[] }
theorem sum_loop {elt tg iter : Expr} {scope : Scope} {pos : Pos} {it : Addr} {J : It} {tn : Nat → Heap → Prop} {g : TG} {te : TE} {vs : List Nat} {σ σG : L2.St} {a S : Addr} {gi k : Nat} {pins : List (Addr × Obj)} {Q : VK} {R : Result → Shared → Prop}
    (I0 : Inv X pins σ H0 s0) (hfp : ∀ b ∈ fp, FpOk X pins H0 b)
    (hr : Room (k + 1) X.A) (hcalm : X.calm = true) (hco : cenv.scope.isCoroutine = false) (T : Turn X.prog X.w X.K tg J fp it tn) (hpn : a ∉ fp) (sc : Scr X s0 cenv fp a S) (hgen : ∀ h : Heap, h.get? a = some go → h.IsGen a gi) (pg : PG (genCx X s0 H0 cenv fp [(a, go)]) tg g) (pe : PE (genCx X s0 H0 cenv fp [(a, go)]) elt te)
    (hw : ∀ σ2 : L2.St, wipe σ2 vs = σG → σ2.length = σG.length) (W : Nat → Nat → Int → Hp → Prop) (hW : ∀ i m acc H, W i m acc H → TurnW J g te vs σG i H (SumK Q W i m acc))
    (hR : ∀ n t H s, Inv X pins σ H s → Q (.int n) H → R (.ok (.ret (.int n t))) s) :
    ∀ (m i : Nat) (acc : Int) (H : Hp) (s : Shared) (tA : Tok) (c : Nat) (st : Int), (st = 0 ∨ st = 2) → GAt X s0 H0 cenv fp go (gcode elt tg iter scope pos it cenv) tn σG [(S, accObj #[.int acc tA] c)] a gi i H s → W i m acc H →
      codeAny (model X.prog X.w) X.A (.builtin "sum.loop" ⟨[.ref a, .ref S, rawInt st, rawInt 0], []⟩) R s := by
  intro m
  induction m using Nat.strongRecOn with
  | _ m ih =>
    intro i acc H s tA c st hst2 G hWi
    refine codeAny_builtin PySem.F.entry_sum_loop ?_
    rw [Around.under_plainId PySem.F.plain_sum_loop _]
    show wpAny _ X.A.in1 (seqItems? (.ref S) >>= _) _ _ s
    refine wpAny_bind (wpAny_seqItems G.pin rfl ?_)
    show wpAny _ X.A.in1 (tryCatch (pyNext (.ref a)) _ >>= _) _ _ s
    refine wpAny_bind (wpAny_tryCatch (thn (gen_next hr hcalm hco T hpn (fun p hp => by rw [List.mem_singleton.mp hp]; exact sc.nfp) hgen pg pe hw G (hW i m acc H hWi)) fun r s1 h1 => ?_))
    cases r with
    | none =>
      obtain ⟨H', I', q⟩ := h1
      exact wpAny_pure (hR acc tA H' s1 (gen_back I0 hfp I') q)
    | some u =>
      obtain ⟨y, H', rv, ⟨n, e, m', hm, w'⟩, G'⟩ := h1
      subst e
      obtain ⟨t, rfl⟩ := rv
      have hS' := G'.pin
      have up : ∀ (h : Heap) (f : Obj → Obj), ∀ b u, b ≠ S → h.get? b = some u → (h.update S f).get? b = some u := fun h f b u hb e => (Heap.get?_update_other _ _ (Ne.symm hb)).trans e
      rcases hst2 with rfl | rfl
      · show wpAny _ X.A.in1 (if (_ : Bool) = true then (mkInt (acc + n) >>= _) else _) _ _ _
        split
        · refine wpAny_bind (wpAny_mkInt ?_)
          show wpAny _ X.A.in1 (updateSeq S (fun _ => #[.int (acc + n) s1.toks]) >>= _) _ _ _
          refine wpAny_bind ?_
          refine wpAny_updateSeq hS' rfl (wpAny_pure ⟨plainId_quiet PySem.F.plain_sum_loop _, ih m' hm (i + 1) _ H' _ s1.toks _ 0 (.inl rfl) (G'.write T sc (up _ _) (Heap.get?_update_self _ hS' rfl) (fun v z => by cases z)) w'⟩)
        · refine wpAny_bind (wpAny_rule ?_)
          refine wpAny_bind (wpAny_attempt (wpAny_holding (wpAny_add_int ?_)))
          show wpAny _ X.A.in1 (updateSeq S (fun _ => #[.int (acc + n) s1.toks]) >>= _) _ _ _
          refine wpAny_bind (wpAny_updateSeq hS' rfl ?_)
          have hS2 := Heap.get?_update_self (Obj.mapSeq fun _ => #[Value.int (acc + n) s1.toks]) hS' rfl
          refine wpAny_bind (wpAny_letGo ?_)
          refine wpAny_bind (wpAny_updateSeq hS2 rfl (wpAny_pure ⟨plainId_quiet PySem.F.plain_sum_loop _, ih m' hm (i + 1) _ H' _ s1.toks _ 2 (.inr rfl) (G'.write T sc (fun b u hb e => up _ _ b u hb (up _ _ b u hb e)) (Heap.get?_update_self _ hS2 rfl) (fun v z => by cases z)) w'⟩))
      · show wpAny _ X.A.in1 ((holding [Value.int n t] (binaryOp .Add (.int acc tA) (.int n t))).attempt >>= _) _ _ _
        refine wpAny_bind (wpAny_attempt (wpAny_holding (wpAny_add_int ?_)))
        show wpAny _ X.A.in1 (updateSeq S (fun _ => #[.int (acc + n) s1.toks]) >>= _) _ _ _
        refine wpAny_bind (wpAny_updateSeq hS' rfl ?_)
        have hS2 := Heap.get?_update_self (Obj.mapSeq fun _ => #[Value.int (acc + n) s1.toks]) hS' rfl
        refine wpAny_bind (wpAny_letGo ?_)
        refine wpAny_bind (wpAny_updateSeq hS2 rfl (wpAny_pure ⟨plainId_quiet PySem.F.plain_sum_loop _, ih m' hm (i + 1) _ H' _ s1.toks _ 2 (.inr rfl) (G'.write T sc (fun b u hb e => up _ _ b u hb (up _ _ b u hb e)) (Heap.get?_update_self _ hS2 rfl) (fun v z => by cases z)) w'⟩))

/-! ### max -/
theorem rc_gt_int {prog : Program} {w : World} {A : Around} {x y : Int} {t u : Tok} {s : Shared} {Q : Value → Shared → Prop} {E : Value → Shared → Prop} (h : Q (.bool (decide (x > y))) s) : wpAny (model prog w) A (richCompare .Gt (.int x t) (.int y u)) Q E s :=
  richCompare_gives (op := .Gt) (typeIs_int s _ t) (typeIs_int s _ u) PySem.F.slot_int_gt PySem.F.entry_int_gt (PySem.F.args_int_gt_2 _ _) (gives_int_gt _ _ t u) (fun x => nomatch x) h
/-- what max wants of what comes: acc, the greatest so far -/
def MaxK (Q : VK) (W : Nat → Nat → Option Int → Hp → Prop) (i m : Nat) (acc : Option Int) : Option V → Hp → Prop := fun o H =>
  match o with
  | none => ∃ b, acc = some b ∧ Q (.int b) H
  | some y => ∃ n, y = .int n ∧ ∃ m', m' < m ∧ W (i + 1) m' (some (match acc with | none => n | some b => if b < n then n else b)) H
theorem max_loop {elt tg iter : Expr} {scope : Scope} {pos : Pos} {it : Addr} {J : It} {tn : Nat → Heap → Prop} {g : TG} {te : TE} {vs : List Nat} {σ σG : L2.St} {a S : Addr} {gi k : Nat} {pins : List (Addr × Obj)} {Q : VK} {R : Result → Shared → Prop}
    (I0 : Inv X pins σ H0 s0) (hfp : ∀ b ∈ fp, FpOk X pins H0 b)
    (hr : Room (k + 1) X.A) (hcalm : X.calm = true) (hco : cenv.scope.isCoroutine = false) (T : Turn X.prog X.w X.K tg J fp it tn) (hpn : a ∉ fp) (sc : Scr X s0 cenv fp a S) (hgen : ∀ h : Heap, h.get? a = some go → h.IsGen a gi) (pg : PG (genCx X s0 H0 cenv fp [(a, go)]) tg g) (pe : PE (genCx X s0 H0 cenv fp [(a, go)]) elt te)
    (hw : ∀ σ2 : L2.St, wipe σ2 vs = σG → σ2.length = σG.length) (W : Nat → Nat → Option Int → Hp → Prop) (hW : ∀ i m acc H, W i m acc H → TurnW J g te vs σG i H (MaxK Q W i m acc))
    (hR : ∀ n t H s, Inv X pins σ H s → Q (.int n) H → R (.ok (.ret (.int n t))) s) :
    ∀ (m i : Nat) (acc : Option Int) (H : Hp) (s : Shared) (tA : Tok) (c : Nat), GAt X s0 H0 cenv fp go (gcode elt tg iter scope pos it cenv) tn σG [(S, accObj (match acc with | none => #[] | some b => #[.int b tA, .int b tA]) c)] a gi i H s → W i m acc H →
      codeAny (model X.prog X.w) X.A (.builtin "max.loop" ⟨[.ref a, .none, .ref S], []⟩) R s := by
  have hname : (toString "max" ++ toString ".loop" : String) = "max.loop" := by decide
  intro m
  induction m using Nat.strongRecOn with
  | _ m ih =>
    intro i acc H s tA c G hWi
    refine codeAny_builtin PySem.F.entry_max_loop ?_
    rw [Around.under_plainId PySem.F.plain_max_loop _]
    show wpAny _ X.A.in1 (seqItems? (.ref S) >>= _) _ _ s
    refine wpAny_bind (wpAny_seqItems G.pin rfl ?_)
    show wpAny _ X.A.in1 (tryCatch (pyNext (.ref a)) _ >>= _) _ _ s
    refine wpAny_bind (wpAny_tryCatch (thn (gen_next hr hcalm hco T hpn (fun p hp => by rw [List.mem_singleton.mp hp]; exact sc.nfp) hgen pg pe hw G (hW i m acc H hWi)) fun r s1 h1 => ?_))
    have up : ∀ (h : Heap) (f : Obj → Obj), ∀ b u, b ≠ S → h.get? b = some u → (h.update S f).get? b = some u := fun h f b u hb e => (Heap.get?_update_other _ _ (Ne.symm hb)).trans e
    cases r with
    | none =>
      obtain ⟨H', I', b, hb, q⟩ := h1
      subst hb
      have hS' : s1.heap.get? S = some (accObj #[.int b tA, .int b tA] c) := (I'.pin (S, _) (List.mem_append_right _ (List.mem_singleton.mpr rfl))).1
      show wpAny _ X.A.in1 (updateSeq S (fun _ => #[]) >>= _) _ _ _
      refine wpAny_bind ?_
      refine wpAny_updateSeq hS' rfl (wpAny_bind (wpAny_letGo (wpAny_pure ?_)))
      have I2 := inv_scratch (t' := s1.toks) I' sc.le (fun p hp => by rw [List.mem_singleton.mp hp]; exact sc.ne) sc.cell (up s1.heap (Obj.mapSeq fun _ => (#[] : Array Value))) (Heap.get?_update_self _ hS' rfl) (fun v z => by cases z)
      exact hR b tA H' _ (gen_back I0 hfp I2) q
    | some u =>
      obtain ⟨y, H', rv, ⟨n, e, m', hm, w'⟩, G'⟩ := h1
      subst e
      obtain ⟨t, rfl⟩ := rv
      have hS' := G'.pin
      cases acc with
      | none =>
        show wpAny _ X.A.in1 (updateSeq S (fun _ => #[.int n t, .int n t]) >>= _) _ _ _
        refine wpAny_bind ?_
        refine wpAny_updateSeq hS' rfl ?_
        rw [hname]
        exact wpAny_pure ⟨plainId_quiet PySem.F.plain_max_loop _, ih m' hm (i + 1) (some n) H' _ t _ (G'.write T sc (up _ _) (Heap.get?_update_self _ hS' rfl) (fun v z => by cases z)) w'⟩
      | some b =>
        show wpAny _ X.A.in1 (tryCatch (holding [.int n t, .int n t] (richCompare .Gt (.int n t) (.int b tA) >>= _)) _ >>= _) _ _ _
        refine wpAny_bind (wpAny_tryCatch (wpAny_holding (wpAny_bind ?_)))
        refine rc_gt_int ?_
        refine wpAny_bind (wpAny_holding (wpAny_truthy_bool ?_))
        refine wpAny_bind (wpAny_letGo (wpAny_pure ?_))
        by_cases hb : b < n
        · have e1 : decide (n > b) = true := decide_eq_true hb
          simp only [e1, if_true]
          refine wpAny_bind ?_
          refine wpAny_updateSeq hS' rfl (wpAny_bind (wpAny_letGo ?_))
          rw [hname]
          have w2 : W (i + 1) m' (some n) H' := by
            have w3 := w'
            simp only [if_pos hb] at w3
            exact w3
          exact wpAny_pure ⟨plainId_quiet PySem.F.plain_max_loop _, ih m' hm (i + 1) (some n) H' _ t _ (G'.write T sc (up _ _) (Heap.get?_update_self _ hS' rfl) (fun v z => by cases z)) w2⟩
        · have e1 : decide (n > b) = false := decide_eq_false hb
          simp only [e1, Bool.false_eq_true, if_false]
          refine wpAny_bind (wpAny_letGo ?_)
          rw [hname]
          have w2 : W (i + 1) m' (some b) H' := by
            have w3 := w'
            simp only [if_neg hb] at w3
            exact w3
          exact wpAny_pure ⟨plainId_quiet PySem.F.plain_max_loop _, ih m' hm (i + 1) (some b) H' _ tA _ G' w2⟩
end
end PM
namespace PM
open PySem PySem.Spec PyProof.Rows L2 GenW
/-- sum(elt for tg in iter), max(elt for tg in iter) -/
def KSum (g : TG) (te : Value → TE) (vs : List Nat) (σ : L2.St) (Q : VK) : It → Value → Hp → Prop := fun J cv H2 =>
  ∃ W : Nat → Nat → Int → Hp → Prop, (∃ m, W 0 m 0 H2) ∧ ∀ i m acc H, W i m acc H → TurnW J g (te cv) vs (wipe σ vs) i H (SumK Q W i m acc)
def tSumG (T : List (Addr × Str)) (X : Cx) (q : Str) (wi : TI) (g : TG) (te : Value → TE) (vs : List Nat) : TE := fun σ H Q => wi σ H fun J H1 => tGenC T X q (KSum g te vs σ Q J) H1
def KMax (g : TG) (te : Value → TE) (vs : List Nat) (σ : L2.St) (Q : VK) : It → Value → Hp → Prop := fun J cv H2 =>
  ∃ W : Nat → Nat → Option Int → Hp → Prop, (∃ m, W 0 m none H2) ∧ ∀ i m acc H, W i m acc H → TurnW J g (te cv) vs (wipe σ vs) i H (MaxK Q W i m acc)
def tMaxG (T : List (Addr × Str)) (X : Cx) (q : Str) (wi : TI) (g : TG) (te : Value → TE) (vs : List Nat) : TE := fun σ H Q => wi σ H fun J H1 => tGenC T X q (KMax g te vs σ Q J) H1
section
variable {X : Cx} {T : List (Addr × Str)} {elt tg iter : Expr} {scope : Scope} {own : List (Str × Nat)} {p pos gpos : Pos} {wi : TI} {g : TG} {te : Value → TE} {k : Nat} {P0 : Addr}
theorem boot_sum : bootBuiltins "sum" = some (.builtin "sum") := by decide +kernel
theorem boot_max : bootBuiltins "max" = some (.builtin "max") := by decide +kernel
theorem pe_sumG (hr : Room (k + 3) X.A) (hc : X.calm = true) (hN : X.N.Nodup) (hg : Gl X "sum") (hm : X.mg "sum" = none) (hB : X.base.BuiltinsAt X.mg P0) (hi : PI X tg iter wi) (ok : GenOk X scope own)
    (pg : ∀ (s : Shared) (H : Hp) (C : Addr) (cv : Value) (fp : List Addr) (pn : List (Addr × Obj)), PG (genCx X s H (gEnv X scope C cv) fp pn) tg g)
    (pe : ∀ (s : Shared) (H : Hp) (C : Addr) (cv : Value) (fp : List Addr) (pn : List (Addr × Obj)), Room k (genCx X s H (gEnv X scope C cv) fp pn).A → PE (genCx X s H (gEnv X scope C cv) fp pn) elt (te cv))
    (hs : ∀ v, genFold iter X.env v = pure v)
    (he : starEach [.GeneratorExp elt [⟨tg, iter, [], 0⟩] scope gpos] X.env = (false, eval (.GeneratorExp elt [⟨tg, iter, [], 0⟩] scope gpos) X.env) :: starEach [] X.env := by rfl) :
    PE X (.Call (.Name "sum" p) [.GeneratorExp elt [⟨tg, iter, [], 0⟩] scope gpos] [] pos) (tSumG T X (X.env.qual ++ "<genexpr>") wi g te (own.map (·.2))) := by
  refine ⟨fun pins s σ H Q I h => ?_⟩
  refine wpAny_Call_Name_kw (ld_blt I hg hm boot_sum ?_)
  refine PyProof.Rows.callWith_builtin1 ?_ he (by rfl)
  rw [he]
  show wpAny _ _ (spliced ((false, eval (.GeneratorExp elt [⟨tg, iter, [], 0⟩] scope gpos) X.env) :: backTo pos (starEach [] X.env))) _ _ s
  refine Calls.spliced_cons (gen_make (T := T) (KK := KSum g te (own.map fun (x : Str × Nat) => x.2) σ Q) hr hc hN hB hi ok hs I h fun J cv H2 a s5 s3 C fp tn it go gi R ⟨W, ⟨m0, w0⟩, hW⟩ => ?_)
  refine Calls.spliced_nil ?_
  refine call_function_tree PySem.F.kind_sum PySem.F.plain_sum PySem.F.entry_sum (PySem.F.args_sum1 _) ?_
  unfold Builtin.«sum»
  simp only [List.length_cons, List.length_nil]
  rw [if_neg (by decide)]
  refine wpAny_bind (wpAny_of_eq (show Builtin.Builtins.bindParams "sum" ["start"] 0 { } = pure [none] from rfl) ?_)
  refine wpAny_bind (wpAny_pyIter_gen R.isg ?_)
  refine wpAny_bind (wpAny_mkInt ?_)
  refine wpAny_bind (wpAny_pure ?_)
  simp only [List.forIn_cons, List.forIn_nil]
  refine wpAny_bind (wpAny_bind (wpAny_bind (wpAny_isInstance (T := "int") (b := false) (typeIs_int _ _ _) PySem.sub_int_str ?_)))
  simp only [Bool.false_eq_true, if_false]
  refine wpAny_pure (wpAny_bind (wpAny_bind (wpAny_isInstance (T := "int") (b := false) (typeIs_int _ _ _) PySem.sub_int_bytes ?_)))
  simp only [Bool.false_eq_true, if_false]
  refine wpAny_pure (wpAny_bind (wpAny_bind (wpAny_isInstance (T := "int") (b := false) (typeIs_int _ _ _) PySem.sub_int_bytearray ?_)))
  simp only [Bool.false_eq_true, if_false]
  refine wpAny_pure (wpAny_pure ?_)
  refine wpAny_bind (wpAny_newObj_type ?_)
  have hrA : Room k (genCx X s3 H2 (gEnv X scope C cv) fp [(a, go)]).A := (hr.in1.in1).deeper _
  obtain ⟨G1, sc⟩ := R.gat.scratch (tk := s5.toks + 1) (o := accObj #[.int 0 s5.toks] 0) R.tu R.lt (fun v z => by cases z) (fun h => Heap.get?_push_size _ rfl)
  refine wpAny_pure ⟨plainId_quiet PySem.F.plain_sum_loop _, ?_⟩
  refine codeAny_mono (sum_loop (X := X) (Q := Q) (R := fun r s' => ∃ v, r = .ok (.ret v) ∧ EP X pins σ Q v s') R.inv R.fp_ hr hc (show (gEnv X scope C cv).scope.isCoroutine = false from ok.co) R.tu R.apart sc R.gen (pg s3 H2 C cv fp _) (pe s3 H2 C cv fp _ hrA) (wipe_len2 _ _) W hW
    (fun n t H' s' I' q' => ⟨_, rfl, .int n, H', I', ⟨t, rfl⟩, q'⟩) m0 0 0 H2 _ s5.toks 0 0 (.inl rfl) G1 w0) fun r s' hq => ?_
  obtain ⟨v, rfl, hq⟩ := hq
  exact hq
theorem pe_maxG (hr : Room (k + 3) X.A) (hc : X.calm = true) (hN : X.N.Nodup) (hg : Gl X "max") (hm : X.mg "max" = none) (hB : X.base.BuiltinsAt X.mg P0) (hi : PI X tg iter wi) (ok : GenOk X scope own)
    (pg : ∀ (s : Shared) (H : Hp) (C : Addr) (cv : Value) (fp : List Addr) (pn : List (Addr × Obj)), PG (genCx X s H (gEnv X scope C cv) fp pn) tg g)
    (pe : ∀ (s : Shared) (H : Hp) (C : Addr) (cv : Value) (fp : List Addr) (pn : List (Addr × Obj)), Room k (genCx X s H (gEnv X scope C cv) fp pn).A → PE (genCx X s H (gEnv X scope C cv) fp pn) elt (te cv))
    (hs : ∀ v, genFold iter X.env v = pure v)
    (he : starEach [.GeneratorExp elt [⟨tg, iter, [], 0⟩] scope gpos] X.env = (false, eval (.GeneratorExp elt [⟨tg, iter, [], 0⟩] scope gpos) X.env) :: starEach [] X.env := by rfl) :
    PE X (.Call (.Name "max" p) [.GeneratorExp elt [⟨tg, iter, [], 0⟩] scope gpos] [] pos) (tMaxG T X (X.env.qual ++ "<genexpr>") wi g te (own.map (·.2))) := by
  have hname : (toString "max" ++ toString ".loop" : String) = "max.loop" := by decide
  refine ⟨fun pins s σ H Q I h => ?_⟩
  refine wpAny_Call_Name_kw (ld_blt I hg hm boot_max ?_)
  refine PyProof.Rows.callWith_builtin1 ?_ he (by rfl)
  rw [he]
  show wpAny _ _ (spliced ((false, eval (.GeneratorExp elt [⟨tg, iter, [], 0⟩] scope gpos) X.env) :: backTo pos (starEach [] X.env))) _ _ s
  refine Calls.spliced_cons (gen_make (T := T) (KK := KMax g te (own.map fun (x : Str × Nat) => x.2) σ Q) hr hc hN hB hi ok hs I h fun J cv H2 a s5 s3 C fp tn it go gi R ⟨W, ⟨m0, w0⟩, hW⟩ => ?_)
  refine Calls.spliced_nil ?_
  refine call_function_tree PySem.F.kind_max PySem.F.plain_max PySem.F.entry_max (PySem.F.args_max1 _) ?_
  show wpAny _ X.A.in1 (Builtin.Builtins.bindParams "max" ["key", "default"] 0 ⟨[], []⟩ >>= _) _ _ s5
  refine wpAny_bind (wpAny_of_eq (show Builtin.Builtins.bindParams "max" ["key", "default"] 0 ⟨[], []⟩ = pure [none, none] from rfl) ?_)
  refine wpAny_bind (wpAny_pure ?_)
  refine wpAny_bind (wpAny_pyIter_gen R.isg ?_)
  refine wpAny_bind (wpAny_newObj_type ?_)
  have hrA : Room k (genCx X s3 H2 (gEnv X scope C cv) fp [(a, go)]).A := (hr.in1.in1).deeper _
  obtain ⟨G1, sc⟩ := R.gat.scratch (tk := s5.toks) (o := accObj #[] 0) R.tu R.lt (fun v z => by cases z) (fun h => Heap.get?_push_size _ rfl)
  rw [hname]
  refine wpAny_pure ⟨plainId_quiet PySem.F.plain_max_loop _, ?_⟩
  refine codeAny_mono (max_loop (X := X) (Q := Q) (R := fun r s' => ∃ v, r = .ok (.ret v) ∧ EP X pins σ Q v s') R.inv R.fp_ hr hc (show (gEnv X scope C cv).scope.isCoroutine = false from ok.co) R.tu R.apart sc R.gen (pg s3 H2 C cv fp _) (pe s3 H2 C cv fp _ hrA) (wipe_len2 _ _) W hW
    (fun n t H' s' I' q' => ⟨_, rfl, .int n, H', I', ⟨t, rfl⟩, q'⟩) m0 0 none H2 _ 0 0 G1 w0) fun r s' hq => ?_
  obtain ⟨v, rfl, hq⟩ := hq
  exact hq
end
end PM
namespace PM
open PySem PySem.Spec PyProof.Rows L2 GenW
/-! ### any(elt for one in range(n) for other in range(n)) -/
abbrev gexp2 (elt t0 i0 t1 i1 : Expr) (scope : Scope) (pos : Pos) : Expr := .GeneratorExp elt [⟨t0, i0, [], 0⟩, ⟨t1, i1, [], 0⟩] scope pos
theorem compTurn_g2out (elt t0 i0 t1 i1 : Expr) (scope : Scope) (pos : Pos) (it acc : Value) (env : Env) :
    compTurn (gexp2 elt t0 i0 t1 i1 scope pos) 0 it acc env = (do
      standAt i0.pos
      match ← pyNext it with
      | none => pure (.done .next)
      | some v =>
        letOwnedTupleGo t0 it v
        assign t0 env v
        let x ← eval i1 env
        standAt i1.pos
        let x ← foldedSetIterable i1 env x
        let _ ← runOwn (.compStart (gexp2 elt t0 i0 t1 i1 scope pos) 1 (← holding [x] (pyIter x)) acc env) env
        again (.compLoop (gexp2 elt t0 i0 t1 i1 scope pos) 0 it acc env)) := by rfl
theorem compTurn_g2in (elt t0 i0 t1 i1 : Expr) (scope : Scope) (pos : Pos) (it acc : Value) (env : Env) :
    compTurn (gexp2 elt t0 i0 t1 i1 scope pos) 1 it acc env = (do
      standAt i1.pos
      match ← pyNext it with
      | none => pure (.done .next)
      | some v =>
        letOwnedTupleGo t1 it v
        assign t1 env v
        (do let v ← eval elt env; standAt elt.pos; let _ ← yieldOut env v)
        again (.compLoop (gexp2 elt t0 i0 t1 i1 scope pos) 1 it acc env)) := by rfl
/-- what is left: (i, j), (i, j + 1) .., then (i + 1, 0) .. -/
def rem2 (n i j : Nat) : List (Nat × Nat) := ((List.range n).drop j).map (fun k => (i, k)) ++ ((List.range n).drop (i + 1)).flatMap fun a => (List.range n).map fun k => (a, k)
theorem drop_range {n j : Nat} (h : j < n) : (List.range n).drop j = j :: (List.range n).drop (j + 1) := by
  rw [List.drop_eq_getElem_cons (by simpa using h)]
  simp
theorem rem2_in {n i j : Nat} (h : j < n) : rem2 n i j = (i, j) :: rem2 n i (j + 1) := by
  unfold rem2
  rw [drop_range h]
  rfl
theorem rem2_out {n i : Nat} (h : i + 1 < n) : rem2 n i n = rem2 n (i + 1) 0 := by
  unfold rem2
  rw [List.drop_of_length_le (by simp), drop_range h]
  simp
theorem rem2_end {n i : Nat} (h : n ≤ i + 1) : rem2 n i n = [] := by
  unfold rem2
  rw [List.drop_of_length_le (by simp), List.drop_of_length_le (by simpa using h)]
  rfl

section
variable {X : Cx} {s0 : Shared} {H0 : Hp} {cenv : Env} {fp : List Addr} {pn : List (Addr × Obj)}
/-- how the inner loop's code is reached again: the frame that waits for it -/
def FrameOk (M : Model) (A : Around) (c0 : Code) (fr : Frame) : Prop := ∃ (k : Result → Sem PySem.Fin) (lv : List Value) (p : Pos), fr = .ret k none false lv c0 p [] ∧ ∀ s Re Yi, SegX M A c0 (M.den c0) [] s Re Yi → SegX M A c0 (k (.ok .next)) [] s Re Yi
/-- in the inner loop, ahead of (i, j) -/
structure InAt (X : Cx) (s0 : Shared) (H0 : Hp) (cenv : Env) (fp : List Addr) (pn : List (Addr × Obj)) (t1 : Expr) (n : Nat) (tn : Nat → Heap → Prop) (σ1 : L2.St) (i j : Nat) (it1 : Addr) (fp1 : List Addr) (tn1 : Nat → Heap → Prop) (H : Hp) (s : Shared) : Prop where
  inv : Inv (genCx X s0 H0 cenv fp pn) [] σ1 H s
  st : tn (i + 1) s.heap
  nf : ∀ b ∈ fp, H b = none
  tu : Turn X.prog X.w X.K t1 (Itr 0 n) fp1 it1 tn1
  st1 : tn1 j s.heap
  f1 : ∀ b ∈ fp1, FpOk (genCx X s0 H0 cenv fp pn) [] H b
  dj : ∀ b ∈ fp, b ∉ fp1
variable {elt t0 i0 t1 i1 : Expr} {scope : Scope} {pos : Pos} {it : Addr} {n : Nat} {tn : Nat → Heap → Prop} {te : TE} {wi : TI} {a1 a2 : Nat} {σG : L2.St} {Q : VK} {G : List (Nat × Nat) → Hp → Prop}
/-- behind a yield: where it will be woken -/
def Woke2 (X : Cx) (s0 : Shared) (H0 : Hp) (cenv : Env) (fp : List Addr) (pn : List (Addr × Obj)) (elt t0 i0 t1 i1 : Expr) (scope : Scope) (pos : Pos) (it : Addr) (n : Nat) (tn : Nat → Heap → Prop) (a1 : Nat) (σG : L2.St) (Q : VK) (G : List (Nat × Nat) → Hp → Prop) (m : Nat) (v : Value) (gs' : GenState) (s' : Shared) : Prop :=
  ∃ (b : Bool) (H' : Hp) (i j : Nat) (it1 : Addr) (fp1 : List Addr) (tn1 : Nat → Heap → Prop) (fr : Frame), v = .bool b ∧ i < n ∧ j ≤ n ∧ (rem2 n i j).length < m ∧ (if b = true then Q (.bl true) H' else G (rem2 n i j) H') ∧
    InAt X s0 H0 cenv fp pn t1 n tn (σG.set a1 (some (.int (i : Nat)))) i j it1 fp1 tn1 H' s' ∧ FrameOk (model X.prog X.w) X.A.in1.in1 (.compLoop (gexp2 elt t0 i0 t1 i1 scope pos) 0 (.ref it) .none cenv) fr ∧
    ∀ s Re Yi, SegX (model X.prog X.w) X.A.in1.in1 (.compLoop (gexp2 elt t0 i0 t1 i1 scope pos) 1 (.ref it1) .none cenv) ((model X.prog X.w).den (.compLoop (gexp2 elt t0 i0 t1 i1 scope pos) 1 (.ref it1) .none cenv)) [fr] s Re Yi → GoesX (model X.prog X.w) X.A.in1.in1 gs' s Re Yi
/-- what is wanted of all pairs -/
structure PairsW (X : Cx) (te : TE) (wi : TI) (n a1 a2 : Nat) (σG : L2.St) (Q : VK) (G : List (Nat × Nat) → Hp → Prop) : Prop where
  nil : ∀ H, G [] H → Q (.bl false) H
  inn : ∀ i j r H, G ((i, j) :: r) H → wi (σG.set a1 (some (.int (i : Nat)))) H fun J H' => J = Itr 0 n ∧ H' = H
  cons : ∀ i j r H, G ((i, j) :: r) H → te ((σG.set a1 (some (.int (i : Nat)))).set a2 (some (.int (j : Nat)))) H fun y H' => ∃ b, y = .bl b ∧ if b = true then Q (.bl true) H' else G r H'

theorem over2 {A : Around} {c0 c1 : Code} {fr : Frame} {M : Model} (hf : FrameOk M A c0 fr) (hw : c1.weight = 0) (hu : c1.cUnits = 0) : A.over c1 [fr] = A.over c0 [] := by
  obtain ⟨k, lv, p, rfl, _⟩ := hf
  exact over_loop hw hu
/-- from the inner loop, where an item is left -/
theorem seg_in {fr : Frame} {i j : Nat} {it1 : Addr} {fp1 : List Addr} {tn1 : Nat → Heap → Prop} {H : Hp} {s : Shared} {Re : Result → Shared → Prop}
    (hcalm : X.calm = true) (hco : cenv.scope.isCoroutine = false) (T : Turn X.prog X.w X.K t0 (Itr 0 n) fp it tn) (hpn : ∀ p ∈ pn, p.1 ∉ fp) (pg1 : PG (genCx X s0 H0 cenv fp pn) t1 (gName a2)) (pe : PE (genCx X s0 H0 cenv fp pn) elt te)
    (PW : PairsW X te wi n a1 a2 σG Q G) (hf : FrameOk (model X.prog X.w) X.A.in1.in1 (.compLoop (gexp2 elt t0 i0 t1 i1 scope pos) 0 (.ref it) .none cenv) fr) (ha2 : σG[a2]? = some none) (h12 : a1 ≠ a2)
    (hi : i < n) (hj : j < n) (h : InAt X s0 H0 cenv fp pn t1 n tn (σG.set a1 (some (.int (i : Nat)))) i j it1 fp1 tn1 H s) (hG : G (rem2 n i j) H) :
    SegX (model X.prog X.w) X.A.in1.in1 (.compLoop (gexp2 elt t0 i0 t1 i1 scope pos) 1 (.ref it1) .none cenv) ((model X.prog X.w).den (.compLoop (gexp2 elt t0 i0 t1 i1 scope pos) 1 (.ref it1) .none cenv)) [fr] s
      Re (Woke2 X s0 H0 cenv fp pn elt t0 i0 t1 i1 scope pos it n tn a1 σG Q G (rem2 n i j).length) := by
  obtain ⟨I, st, nf, T1, st1, f1, dj⟩ := h
  have ov : X.A.in1.in1.over (.compLoop (gexp2 elt t0 i0 t1 i1 scope pos) 1 (.ref it1) .none cenv) [fr] = (genCx X s0 H0 cenv fp pn).A := by
    rw [over2 hf rfl rfl]
    exact over_comp
  have hsp : splitAtGen [fr] = none := by
    obtain ⟨k, lv, p, rfl, _⟩ := hf
    rfl
  have hgu : ([fr] : List Frame).any Frame.guarded = false := by
    obtain ⟨k, lv, p, rfl, _⟩ := hf
    rfl
  have hlen : (rem2 n i (j + 1)).length < (rem2 n i j).length := by
    rw [rem2_in hj]
    exact Nat.lt_succ_self _
  rw [rem2_in hj] at hG
  have hc := PW.cons i j _ H hG
  show SegX _ _ _ ((compTurn (gexp2 elt t0 i0 t1 i1 scope pos) 1 (.ref it1) .none cenv).onRaise (fun x => do noteFrame x cenv; theTreesLotGoes x)) [fr] s _ _
  rw [compTurn_g2in, Sem.onRaise_eq_wrap]
  refine segx_bind_wrap (wpAny_standAt ?_)
  refine segx_bind_wrap ?_
  rw [ov]
  have Ip := I.pinned (fpOk_gen I (by simpa using hpn) nf) (T.obj _ _ st)
  have fpp : ∀ {H' : Hp} {h : Heap}, (∀ b ∈ fp1, H' b = none) → ∀ b ∈ fp1, FpOk (genCx X s0 H0 cenv fp pn) ([] ++ pinsAt fp h) H' b := fun {H' h} hn b hb => by
    obtain ⟨q0, q1, q2, q3, q4, q5⟩ := f1 b hb
    refine ⟨hn b hb, q1, q2, q3, q4, fun p hp => ?_⟩
    rcases List.mem_append.mp hp with hp | hp
    · exact q5 p (List.mem_append_left _ hp)
    · have hp' : p ∈ pinsAt fp h := by simpa using hp
      intro e
      exact dj p.1 (of_pinsAt hp').1 (by rw [e]; exact hb)
  refine thnF (T1.item (genCx X s0 H0 cenv fp pn) rfl rfl rfl hcalm j _ s _ H (fun _ _ => False) Ip (fpp fun b hb => (f1 b hb).1) st1 hj) fun r s1 ⟨u, hr, h1⟩ => ?_
  subst hr
  refine segx_bind_wrap ?_
  rw [ov]
  refine thnF h1 fun _ s2 ⟨x, H2, I2, r2, ⟨e2, ex⟩, st2, n2⟩ => ?_
  subst e2
  rw [Int.zero_add] at ex
  subst ex
  have I2' := I2.pinned (fpp n2) (T1.obj _ _ st2)
  refine segx_bind_wrap ?_
  rw [ov]
  refine thnF (pg1.run _ s2 _ H2 (.int (j : Nat)) u (fun σ' H' => σ' = (σG.set a1 (some (.int (i : Nat)))).set a2 (some (.int (j : Nat))) ∧ H' = H2) I2' r2 ⟨rfl, rfl⟩) fun _ s3 ⟨σ3, H3, I3, e3, eH⟩ => ?_
  subst e3
  rw [eH] at I3
  have hy : ∀ v, yieldOut cenv v = yieldValue v := fun v => by simp only [yieldOut, hco, Bool.false_eq_true, if_false]
  simp only [hy]
  rw [Sem.bind_eq_wrap', Sem.bind_eq_wrap', Sem.wrap_wrap, Sem.wrap_wrap]
  refine segx_wrap ?_
  rw [ov]
  refine thnF (pe.run _ s3 _ H2 _ I3 hc) fun v s4 ⟨y, H4, I4, r4, b, eb, q4⟩ => ?_
  subst eb
  obtain rfl : v = Value.bool b := r4
  have pinA : ∀ b ∈ fp, ∀ o, s.heap.get? b = some o → s4.heap.get? b = some o ∧ H4 b = none := fun b hb o e =>
    let z := I4.pin (b, o) (List.mem_append_right _ (List.mem_append_left _ (List.mem_append_right _ (mem_pinsAt hb e))))
    ⟨z.1, z.2.1⟩
  have pinB : ∀ b ∈ fp1, ∀ o, s2.heap.get? b = some o → s4.heap.get? b = some o ∧ H4 b = none := fun b hb o e =>
    let z := I4.pin (b, o) (List.mem_append_right _ (List.mem_append_right _ (mem_pinsAt hb e)))
    ⟨z.1, z.2.1⟩
  have nA : ∀ b ∈ fp, H4 b = none := fun b hb => by
    obtain ⟨o, e, _⟩ := T.obj _ _ st b hb
    exact (pinA b hb o e).2
  have nB : ∀ b ∈ fp1, H4 b = none := fun b hb => by
    obtain ⟨o, e, _⟩ := T1.obj _ _ st2 b hb
    exact (pinB b hb o e).2
  have J4 : Inv (genCx X s0 H0 cenv fp pn) [] (σG.set a1 (some (.int (i : Nat)))) H4 s4 := (I4.pins_of (pins' := []) fun p hp => absurd hp (by simp)).weak (by rw [List.length_set, List.length_set, List.length_set]) fun k v e => by
    by_cases hk : a2 = k
    · subst hk
      rw [List.getElem?_set_ne h12, ha2] at e
      cases e
    · rw [List.getElem?_set_ne hk]
      exact e
  refine segx_at (segx_yield hsp rfl hgu fun p => ⟨b, H4, i, j + 1, it1, fp1, tn1, fr, rfl, hi, hj, hlen, q4, ⟨J4, T.keep _ _ _ st fun b hb o e => (pinA b hb o e).1, nA, T1, T1.keep _ _ _ st2 fun b hb o e => (pinB b hb o e).1, fun b hb => ?_, dj⟩, hf, fun s'' Re' Yi' hl => segx_again rfl hl⟩)
  obtain ⟨q0, q1, q2, q3, q4, q5⟩ := f1 b hb
  exact ⟨nB b hb, q1, q2, q3, q4, q5⟩
/-- from the outer loop -/
theorem seg_out {i m : Nat} {H : Hp} {s : Shared}
    (hcalm : X.calm = true) (hco : cenv.scope.isCoroutine = false) (T : Turn X.prog X.w X.K t0 (Itr 0 n) fp it tn) (hpn : ∀ p ∈ pn, p.1 ∉ fp) (pg0 : PG (genCx X s0 H0 cenv fp pn) t0 (gName a1)) (pg1 : PG (genCx X s0 H0 cenv fp pn) t1 (gName a2)) (pe : PE (genCx X s0 H0 cenv fp pn) elt te) (pi1 : PI (genCx X s0 H0 cenv fp pn) t1 i1 wi)
    (hsf : ∀ x, foldedSetIterable i1 cenv x = pure x)
    (PW : PairsW X te wi n a1 a2 σG Q G) (ha2 : σG[a2]? = some none) (h12 : a1 ≠ a2) (hi : i ≤ n) (hm : i < n → m = (rem2 n i 0).length) (I : Inv (genCx X s0 H0 cenv fp pn) [] σG H s) (st : tn i s.heap) (nf : ∀ b ∈ fp, H b = none) (hG : if i < n then G (rem2 n i 0) H else G [] H) :
    SegX (model X.prog X.w) X.A.in1.in1 (.compLoop (gexp2 elt t0 i0 t1 i1 scope pos) 0 (.ref it) .none cenv) ((model X.prog X.w).den (.compLoop (gexp2 elt t0 i0 t1 i1 scope pos) 0 (.ref it) .none cenv)) [] s
      (fun r s' => r = .ok .next ∧ ∃ H', Inv (genCx X s0 H0 cenv fp pn) [] σG H' s' ∧ Q (.bl false) H') (Woke2 X s0 H0 cenv fp pn elt t0 i0 t1 i1 scope pos it n tn a1 σG Q G m) := by
  have ov : X.A.in1.in1.over (.compLoop (gexp2 elt t0 i0 t1 i1 scope pos) 0 (.ref it) .none cenv) [] = (genCx X s0 H0 cenv fp pn).A := over_comp
  show SegX _ _ _ ((compTurn (gexp2 elt t0 i0 t1 i1 scope pos) 0 (.ref it) .none cenv).onRaise (leaving cenv)) [] s _ _
  rw [compTurn_g2out, Sem.onRaise_eq_wrap]
  refine segx_bind_wrap (wpAny_standAt ?_)
  by_cases hlt : i < n
  · rw [if_pos hlt] at hG
    refine segx_bind_wrap ?_
    rw [ov]
    refine thnF (T.item (genCx X s0 H0 cenv fp pn) rfl rfl rfl hcalm i [] s _ H (fun _ _ => False) I (fpOk_gen I (by simpa using hpn) nf) st hlt) fun r s1 ⟨u, hr, h1⟩ => ?_
    subst hr
    refine segx_bind_wrap ?_
    rw [ov]
    refine thnF h1 fun _ s2 ⟨x, H2, I2, r2, ⟨e2, ex⟩, st2, n2⟩ => ?_
    subst e2
    rw [Int.zero_add] at ex
    subst ex
    have I2' := I2.pinned (fpOk_gen I2 (by simpa using hpn) n2) (T.obj _ _ st2)
    refine segx_bind_wrap ?_
    rw [ov]
    refine thnF (pg0.run _ s2 _ H2 (.int (i : Nat)) u (fun σ' H' => σ' = σG.set a1 (some (.int (i : Nat))) ∧ H' = H2) I2' r2 ⟨rfl, rfl⟩) fun _ s3 ⟨σ3, H3, I3, e3, eH⟩ => ?_
    subst e3
    rw [eH] at I3
    have hG' := hG
    rw [rem2_in (show 0 < n by omega)] at hG'
    have hw := PW.inn i 0 _ H2 hG'
    refine segx_bind_wrap ?_
    rw [ov]
    refine thnF (pi1.run _ s3 _ H2 _ I3 hw) fun xv s4 h4 => ?_
    refine segx_bind_wrap (wpAny_standAt ?_)
    refine segx_bind_wrap ?_
    rw [hsf]
    refine wpAny_pure ?_
    refine segx_bind_wrap (wpAny_holding ?_)
    rw [ov]
    refine thnF h4 fun itv s5 h5 => ?_
    obtain ⟨it1, fp1, tn1, J1, H5, e5, I5, T1, st5, f5, eJ, eH5⟩ := h5
    subst e5
    subst eJ
    rw [eH5] at I5 f5
    have pin' : ∀ b ∈ fp, ∀ o, s2.heap.get? b = some o → s5.heap.get? b = some o := fun b hb o e => (I5.pin (b, o) (List.mem_append_right _ (List.mem_append_right _ (mem_pinsAt hb e)))).1
    have dj : ∀ b ∈ fp, b ∉ fp1 := fun b hb hm => by
      obtain ⟨o, e, _⟩ := T.obj _ _ st2 b hb
      exact (f5 b hm).2.2.2.2.2 (b, o) (List.mem_append_right _ (List.mem_append_right _ (mem_pinsAt hb e))) rfl
    have J5 : Inv (genCx X s0 H0 cenv fp pn) [] (σG.set a1 (some (.int (i : Nat)))) H2 s5 := I5.pins_of fun p hp => absurd hp (by simp)
    have A5 : InAt X s0 H0 cenv fp pn t1 n tn (σG.set a1 (some (.int (i : Nat)))) i 0 it1 fp1 tn1 H2 s5 := ⟨J5, T.keep _ _ _ st2 fun b hb o e => pin' b hb o e, n2, T1, st5, fun b hb => by
      obtain ⟨q0, q1, q2, q3, q4, q5⟩ := f5 b hb
      refine ⟨q0, q1, q2, q3, q4, fun p hp => q5 p ?_⟩
      rw [List.append_nil] at hp
      exact List.mem_append_left _ hp, dj⟩
    unfold runOwn
    rw [Sem.onRaise_eq_wrap]
    rw [Sem.bind_eq_wrap', Sem.wrap_wrap, Sem.wrap_wrap]
    refine segx_call fun p => ?_
    have fin : ∀ fr, FrameOk (model X.prog X.w) X.A.in1.in1 (.compLoop (gexp2 elt t0 i0 t1 i1 scope pos) 0 (.ref it) .none cenv) fr → SegX (model X.prog X.w) X.A.in1.in1 (.compStart (gexp2 elt t0 i0 t1 i1 scope pos) 1 (.ref it1) .none cenv) ((model X.prog X.w).den (.compStart (gexp2 elt t0 i0 t1 i1 scope pos) 1 (.ref it1) .none cenv)) [fr] s5
        (fun r s' => r = .ok .next ∧ ∃ H', Inv (genCx X s0 H0 cenv fp pn) [] σG H' s' ∧ Q (.bl false) H') (Woke2 X s0 H0 cenv fp pn elt t0 i0 t1 i1 scope pos it n tn a1 σG Q G m) := fun fr hf => by
      have loop := seg_in (Re := fun r s' => r = .ok .next ∧ ∃ H', Inv (genCx X s0 H0 cenv fp pn) [] σG H' s' ∧ Q (.bl false) H') hcalm hco T hpn pg1 pe PW hf ha2 h12 hlt (show 0 < n by omega) A5 hG
      rw [← hm hlt] at loop
      show SegX _ _ _ ((compStart (gexp2 elt t0 i0 t1 i1 scope pos) 1 (.ref it1) .none cenv).onRaise (fun x => do noteFrame x cenv; standAt theWindowsPlace)) [fr] s5 _ _
      unfold compStart
      rw [Sem.onRaise_eq_wrap]
      show SegX _ _ _ ((ask >>= _).wrap _ _ _ _) [fr] s5 _ _
      refine segx_bind_wrap (wpAny_askSetting ?_)
      split
      · exact segx_again rfl loop
      · first
          | exact segx_bind_wrap (wpAny_rule (segx_bind_wrap (wpAny_standAt (segx_bind_wrap (T1.self _ 0 s5 _ _ st5 (segx_again rfl loop))))))
          | (refine segx_bind_wrap (wpAny_rule ?_); show SegX _ _ _ ((standAt i1.pos >>= _).wrap _ _ _ _) [fr] s5 _ _; exact segx_bind_wrap (wpAny_standAt (segx_bind_wrap (T1.self _ 0 s5 _ _ st5 (segx_again rfl loop)))))
    exact fin _ ⟨_, _, _, rfl, fun s' Re' Yi' h => segx_again rfl h⟩
  · rw [if_neg hlt] at hG
    refine segx_bind_wrap ?_
    rw [ov]
    refine thnF (T.done (genCx X s0 H0 cenv fp pn) rfl rfl rfl hcalm i [] s _ H (fun _ _ => False) I (fpOk_gen I (by simpa using hpn) nf) st (Nat.le_of_not_lt hlt)) fun r s1 ⟨hr, I1⟩ => ?_
    subst hr
    exact segx_end (.ok .next) ⟨rfl, H, I1, PW.nil H hG⟩
/-- woken again behind (i, j - 1): the next pair, or the end -/
theorem seg_woke {fr : Frame} {i j : Nat} {it1 : Addr} {fp1 : List Addr} {tn1 : Nat → Heap → Prop} {H : Hp} {s : Shared}
    (hcalm : X.calm = true) (hco : cenv.scope.isCoroutine = false) (T : Turn X.prog X.w X.K t0 (Itr 0 n) fp it tn) (hpn : ∀ p ∈ pn, p.1 ∉ fp) (pg0 : PG (genCx X s0 H0 cenv fp pn) t0 (gName a1)) (pg1 : PG (genCx X s0 H0 cenv fp pn) t1 (gName a2)) (pe : PE (genCx X s0 H0 cenv fp pn) elt te) (pi1 : PI (genCx X s0 H0 cenv fp pn) t1 i1 wi)
    (hsf : ∀ x, foldedSetIterable i1 cenv x = pure x)
    (PW : PairsW X te wi n a1 a2 σG Q G) (hf : FrameOk (model X.prog X.w) X.A.in1.in1 (.compLoop (gexp2 elt t0 i0 t1 i1 scope pos) 0 (.ref it) .none cenv) fr) (ha2 : σG[a2]? = some none) (ha1 : σG[a1]? = some none) (h12 : a1 ≠ a2)
    (hi : i < n) (hj : j ≤ n) (h : InAt X s0 H0 cenv fp pn t1 n tn (σG.set a1 (some (.int (i : Nat)))) i j it1 fp1 tn1 H s) (hG : G (rem2 n i j) H) :
    SegX (model X.prog X.w) X.A.in1.in1 (.compLoop (gexp2 elt t0 i0 t1 i1 scope pos) 1 (.ref it1) .none cenv) ((model X.prog X.w).den (.compLoop (gexp2 elt t0 i0 t1 i1 scope pos) 1 (.ref it1) .none cenv)) [fr] s
      (fun r s' => r = .ok .next ∧ ∃ H', Inv (genCx X s0 H0 cenv fp pn) [] σG H' s' ∧ Q (.bl false) H') (Woke2 X s0 H0 cenv fp pn elt t0 i0 t1 i1 scope pos it n tn a1 σG Q G (rem2 n i j).length) := by
  by_cases hlt : j < n
  · exact seg_in hcalm hco T hpn pg1 pe PW hf ha2 h12 hi hlt h hG
  · obtain ⟨I, st, nf, T1, st1, f1, dj⟩ := h
    have ej : j = n := by omega
    subst ej
    have ov : X.A.in1.in1.over (.compLoop (gexp2 elt t0 i0 t1 i1 scope pos) 1 (.ref it1) .none cenv) [fr] = (genCx X s0 H0 cenv fp pn).A := by
      rw [over2 hf rfl rfl]
      exact over_comp
    show SegX _ _ _ ((compTurn (gexp2 elt t0 i0 t1 i1 scope pos) 1 (.ref it1) .none cenv).onRaise (fun x => do noteFrame x cenv; theTreesLotGoes x)) [fr] s _ _
    rw [compTurn_g2in, Sem.onRaise_eq_wrap]
    refine segx_bind_wrap (wpAny_standAt ?_)
    refine segx_bind_wrap ?_
    rw [ov]
    have Ip := I.pinned (fpOk_gen I (by simpa using hpn) nf) (T.obj _ _ st)
    have fpp : ∀ b ∈ fp1, FpOk (genCx X s0 H0 cenv fp pn) ([] ++ pinsAt fp s.heap) H b := fun b hb => by
      obtain ⟨q0, q1, q2, q3, q4, q5⟩ := f1 b hb
      refine ⟨q0, q1, q2, q3, q4, fun p hp => ?_⟩
      rcases List.mem_append.mp hp with hp | hp
      · exact q5 p (List.mem_append_left _ hp)
      · have hp' : p ∈ pinsAt fp s.heap := by simpa using hp
        intro e
        exact dj p.1 (of_pinsAt hp').1 (by rw [e]; exact hb)
    refine thnF (T1.done (genCx X s0 H0 cenv fp pn) rfl rfl rfl hcalm j _ s _ H (fun _ _ => False) Ip fpp st1 (Nat.le_refl _)) fun r s1 ⟨hr, I1⟩ => ?_
    subst hr
    have pinA : ∀ b ∈ fp, ∀ o, s.heap.get? b = some o → s1.heap.get? b = some o := fun b hb o e => (I1.pin (b, o) (List.mem_append_right _ (List.mem_append_right _ (mem_pinsAt hb e)))).1
    have J1 : Inv (genCx X s0 H0 cenv fp pn) [] σG H s1 := (I1.pins_of (pins' := []) fun p hp => absurd hp (by simp)).weak (by rw [List.length_set]) fun k v e => by
      by_cases hk : a1 = k
      · subst hk
        rw [ha1] at e
        cases e
      · rw [List.getElem?_set_ne hk]
        exact e
    have out := seg_out hcalm hco T hpn pg0 pg1 pe pi1 hsf PW ha2 h12 (i0 := i0) (scope := scope) (pos := pos) (i := i + 1) (n := j) (Nat.succ_le_of_lt hi) (m := (rem2 j i j).length) (fun h1 => by rw [rem2_out h1]) J1 (T.keep _ _ _ st fun b hb o e => pinA b hb o e) nf (by
      by_cases h1 : i + 1 < j
      · rw [if_pos h1, ← rem2_out h1]
        exact hG
      · have e0 : rem2 j i j = [] := rem2_end (by omega)
        rw [if_neg h1, ← e0]
        exact hG)
    obtain ⟨k, lv, p, rfl, hk⟩ := hf
    exact segx_leaf (.ok .next) (hk _ _ _ out)
end
end PM
namespace PM
open PySem PySem.Spec PyProof.Rows L2 GenW
theorem eval_gexp2 (elt t0 i0 t1 i1 : Expr) (scope : Scope) (pos : Pos) (env : Env) (hco : scope.isCoroutine = false) :
    eval (gexp2 elt t0 i0 t1 i1 scope pos) env = (do
      let x ← eval i0 env
      standAt i0.pos
      let x ← genFold i0 env x
      let it ← holding [x] (pyIter x)
      enterFrame
      let cl ← closureFor scope env
      let code ← genexprCode env pos (env.qual ++ "<genexpr>") scope
      let bi ← builtinsFor env.globals env.builtins
      let cenv ← newFunctionEnv scope env.globals cl [(".0", it)] (env.qual ++ "<genexpr>.") none code none bi
      newGenerator (.compStart (gexp2 elt t0 i0 t1 i1 scope pos) 0 it .none cenv) "<genexpr>" (env.qual ++ "<genexpr>")) := by
  unfold gexp2
  rw [arm_eval_GeneratorExp]
  simp only [hco, Bool.false_eq_true, if_false]
  cases i0 <;> rfl
theorem wpAny_gexp2 {M : Model} {A : Around} {E : Value → Shared → Prop} {s : Shared} {env : Env} {elt t0 i0 t1 i1 : Expr} {scope : Scope} {cl : List (Str × Addr)} {pos : Pos} {Q : Value → Shared → Prop}
    (hco : scope.isCoroutine = false) (hclos : closureFor scope env = pure cl) (hcell : ∀ y ∈ scope.names, y.2 ≠ .cell) (h0 : scope.names.lookup (".0" : Str) = some NameKind.local) (hkind : scope.kind = .function)
    (hroom : A.depth < recursionLimit)
    (h : wpAny M A (eval i0 env) (fun xv s₁ => wpAny M A (pyIter xv) (fun it s₂ => s₂.heap.NoLimit ∧
      wpAny M A (genexprCode env pos (env.qual ++ "<genexpr>") scope) (fun code s₃ => wpAny M A (builtinsFor env.globals env.builtins) (fun bi s₄ =>
        ∀ h', h'.Ns s₄.heap.objs.size (fun y => if y = ".0" then some it else none) → Heap.SameBut s₄.heap.objs.size (s₄.heap.push { cls := .type "frame", data := .dict #[] }) h' →
          Q (.ref h'.objs.size) { s₄ with
            gens := s₄.gens.push (.fresh (.compStart (gexp2 elt t0 i0 t1 i1 scope pos) 0 it .none (genEnv scope cl s₄.heap.objs.size code bi env))),
            toks := s₄.toks + 1 + 1 + 1,
            heap := h'.push { cls := .type "generator", data := .fields #[.int s₄.gens.size 0, .str "<genexpr>" (s₄.toks + 1), .str (env.qual ++ "<genexpr>") (s₄.toks + 1 + 1)] } }) E s₃) E s₂) E s₁) E s)
    (hs : ∀ x, genFold i0 env x = pure x) :
    wpAny M A (eval (gexp2 elt t0 i0 t1 i1 scope pos) env) Q E s := by
  rw [eval_gexp2 _ _ _ _ _ _ _ _ hco, hclos]
  refine wpAny_bind (wpAny_mono h (fun xv s₁ h₁ => ?_) fun _ _ e => e)
  refine wpAny_bind (wpAny_standAt ?_)
  refine wpAny_bind (wpAny_of_eq (hs xv) ?_)
  refine wpAny_bind (wpAny_holding (wpAny_mono h₁ (fun it s₂ h₂ => ?_) fun _ _ e => e))
  refine wpAny_bind (wpAny_enterFrame h₂.1 hroom ?_)
  refine wpAny_bind (wpAny_pure ?_)
  refine wpAny_bind (wpAny_mono h₂.2 (fun code s₃ h₃ => ?_) fun _ _ e => e)
  refine wpAny_bind (wpAny_mono h₃ (fun bi s₄ h₄ => ?_) fun _ _ e => e)
  have hbinds : ∀ y ∈ ([((".0" : Str), it)] : List (Str × Value)), scope.names.lookup y.1 = some NameKind.local := by
    intro y hy
    rcases List.mem_cons.mp hy with rfl | hy
    · exact h0
    · cases hy
  refine wpAny_bind (wpAny_newFunctionEnv hcell hbinds (fun h' hn' hs' => ?_) hkind)
  have e : (fun y : Str => ([((".0" : Str), it)] : List (Str × Value)).reverse.lookup y) = fun y : Str => if y = (".0" : Str) then some it else none := by
    funext y
    by_cases hy : y = ".0"
    · subst hy; simp
    · have : (y == (".0" : Str)) = false := by simpa using hy
      simp [List.lookup, this, hy]
  rw [e] at hn'
  simp only [newGenerator, newFields]
  refine wpAny_bind (wpAny_newGen (wpAny_bind (wpAny_mkText (wpAny_bind (wpAny_mkText (wpAny_newObj_type ?_ (by size_fits)))))))
  exact h₄ h' hn' hs'

structure Ready2 (X : Cx) (pins : List (Addr × Obj)) (σ : L2.St) (elt t0 i0 t1 i1 : Expr) (scope : Scope) (own : List (Str × Nat)) (pos : Pos) (J : It) (cv : Value) (H : Hp) (a : Addr) (s : Shared) (s3 : Shared) (C : Addr) (fp : List Addr) (tn : Nat → Heap → Prop) (it : Addr) (go : Obj) (gi : Nat) : Prop where
  inv : Inv X pins σ H s3
  fp_ : ∀ b ∈ fp, FpOk X pins H b
  tu : Turn X.prog X.w X.K t0 J fp it tn
  inv0 : Inv (genCx X s3 H (gEnv X scope C cv) fp [(a, go)]) [] (wipe σ (own.map (·.2))) H s
  st : tn 0 s.heap
  nf : ∀ b ∈ fp, H b = none
  gs : s.gens[gi]? = some (.fresh (.compStart (gexp2 elt t0 i0 t1 i1 scope pos) 0 (.ref it) .none (gEnv X scope C cv)))
  apart : a ∉ fp
  gen : ∀ h : Heap, h.get? a = some go → h.IsGen a gi
  isg : s.heap.IsGen a gi
theorem gen_make2 {X : Cx} {pins : List (Addr × Obj)} {σ : L2.St} {H : Hp} {s : Shared} {T : List (Addr × Str)} {elt t0 i0 t1 i1 : Expr} {scope : Scope} {own : List (Str × Nat)} {gpos : Pos} {wi : TI} {k : Nat} {P0 : Addr} {KK : It → Value → Hp → Prop} {Q' : Value → Shared → Prop}
    (hr : Room (k + 3) X.A) (hc : X.calm = true) (hN : X.N.Nodup) (hB : X.base.BuiltinsAt X.mg P0) (hi : PI X t0 i0 wi) (ok : GenOk X scope own)
    (hs : ∀ v, genFold i0 X.env v = pure v) (I : Inv X pins σ H s) (h : wi σ H fun J H1 => tGenC T X (X.env.qual ++ "<genexpr>") (KK J) H1)
    (hQ : ∀ J cv H2 a s5 s3 C fp tn it go gi, Ready2 X pins σ elt t0 i0 t1 i1 scope own gpos J cv H2 a s5 s3 C fp tn it go gi → KK J cv H2 → Q' (.ref a) s5) :
    wpAny (model X.prog X.w) X.A (eval (gexp2 elt t0 i0 t1 i1 scope gpos) X.env) Q' X.xe s := by
  have hfree : ∀ y ∈ scope.names, y.2 = .free → ∃ c, X.env.cells.lookup y.1 = some c := fun y hy e => by
    rcases ok.blk.free y hy e with k | k
    · exact I.ok.has _ (.inl k)
    · exact I.ok.has _ (.inr k)
  refine wpAny_gexp2 ok.co (closure_ok hfree) ok.cell ok.dot ok.blk.kind hr.depth ?_ hs
  refine thn (hi.run pins s σ H _ I h) fun xv s1 hx => thn hx fun itv s2 h2 => ?_
  obtain ⟨it, fp, tn, J, H2, e, I2, Tu, st2, f2, c, P, hcode, hC, hG, hT, hmT, q⟩ := h2
  subst e
  refine ⟨I2.nolimit, ?_⟩
  refine gen_code I2 hcode hC hG hT hmT fun cv H3 h3 tk I3 gc hk hfr hsz hcv => ?_
  have hK := q cv H3 gc hcv
  obtain ⟨bm, ob, b1, b2, b3, b4, b5, b6, b7, b8⟩ := hB
  refine wpAny_builtinsFor (m := X.mg) (by rw [I3.ok.glob]; exact I3.mod.glob.keeps I3.bk) b1 b2 (I3.bk _ _ b5) b6 b7 b8 ?_
  intro h' hns hsb
  have nP : ∀ b ∈ fp, b ≠ P := fun b hb z => by
    obtain ⟨ps, hp, _⟩ := hG
    have := (f2 b hb).1
    rw [z, hp] at this
    cases this
  have st3 : tn 0 h3 := Tu.keep _ _ _ st2 fun b hb o e => hk b o (nP b hb) e
  have f3 : ∀ b ∈ fp, FpOk X pins H3 b ∧ b < h3.objs.size := fun b hb => by
    obtain ⟨o, e, _⟩ := Tu.obj _ _ st2 b hb
    refine ⟨⟨?_, (f2 b hb).2⟩, Nat.lt_of_lt_of_le (Heap.lt_size e) hsz⟩
    exact hfr b o e (f2 b hb).1
  obtain ⟨go, hgo⟩ : ∃ go : Obj, go = { cls := .type "generator", data := .fields #[.int s2.gens.size 0, .str "<genexpr>" (tk + 1), .str (X.env.qual ++ "<genexpr>") (tk + 1 + 1)] } := ⟨_, rfl⟩
  have hgp : ∀ h : Heap, (h.push go).get? h.objs.size = some go := fun h => by
    subst hgo
    exact Heap.get?_push_size _ rfl
  have hgd : ∀ v, go.data ≠ .cell v := fun v z => by
    subst hgo
    cases z
  have hgen : ∀ (a : Addr) (h : Heap), h.get? a = some go → h.IsGen a s2.gens.size := fun a h e => by
    subst hgo
    exact ⟨_, _, _, e, rfl, rfl, rfl⟩
  have J0 : Inv (genCx X { s2 with heap := h3, toks := tk } H3 (gEnv X scope h3.objs.size cv) fp [(h'.objs.size, go)]) [] (wipe σ (own.map (·.2))) H3
      { s2 with gens := s2.gens.push (.fresh (.compStart (gexp2 elt t0 i0 t1 i1 scope gpos) 0 (.ref it) .none (gEnv X scope h3.objs.size cv))), toks := tk + 1 + 1 + 1, heap := h'.push go } :=
    gen_start (code := cv) (it := .ref it) (go := go) (gs := .fresh (.compStart (gexp2 elt t0 i0 t1 i1 scope gpos) 0 (.ref it) .none (gEnv X scope h3.objs.size cv))) (tk := tk + 1 + 1 + 1) (h' := h') I3 hc ok.blk hN f3 ok.cell hns hsb rfl hgd hgp
  have hsz' : h'.objs.size = h3.objs.size + 1 := by rw [hsb.1, Heap.size_push]
  have st5 : tn 0 (h'.push go) := Tu.keep _ _ _ st3 fun b hb o e => Heap.get?_push_of_some _ (hsb.extBut b o (Nat.ne_of_lt (Heap.lt_size e)) (Heap.get?_push_of_some _ e))
  have hpn : h'.objs.size ∉ fp := fun z => by
    have h9 := (f3 _ z).2
    rw [hsz'] at h9
    exact absurd h9 (Nat.not_lt.mpr (Nat.le_succ _))
  have R : Ready2 X pins σ elt t0 i0 t1 i1 scope own gpos J cv H3 h'.objs.size _ _ h3.objs.size fp tn it go s2.gens.size := ⟨I3, fun b hb => (f3 b hb).1, Tu, J0, st5, fun b hb => (f3 b hb).1.1, Array.getElem?_push_size .., hpn, hgen _, hgen _ _ (hgp h')⟩
  have fin := hQ J cv H3 h'.objs.size _ _ _ fp tn it go _ R hK
  subst hgo
  exact fin

section
variable {X : Cx} {s0 : Shared} {H0 : Hp} {cenv : Env} {fp : List Addr} {go : Obj} {elt t0 i0 t1 i1 : Expr} {scope : Scope} {pos : Pos} {it : Addr} {n : Nat} {tn : Nat → Heap → Prop} {te : TE} {wi : TI} {a1 a2 : Nat} {σG : L2.St} {Q : VK} {G : List (Nat × Nat) → Hp → Prop} {a : Addr} {gi : Nat}
/-- the generator sleeps; at most m pairs are left -/
structure At2 (X : Cx) (s0 : Shared) (H0 : Hp) (cenv : Env) (fp : List Addr) (go : Obj) (elt t0 i0 t1 i1 : Expr) (scope : Scope) (pos : Pos) (it : Addr) (n : Nat) (tn : Nat → Heap → Prop) (a1 : Nat) (σG : L2.St) (Q : VK) (G : List (Nat × Nat) → Hp → Prop) (a : Addr) (gi : Nat) (m : Nat) (s : Shared) : Prop where
  inv : ∃ σ H, Inv (genCx X s0 H0 cenv fp [(a, go)]) [] σ H s
  gs : ∃ gs, s.gens[gi]? = some gs ∧ GoesX (model X.prog X.w) X.A.in1.in1 gs (s.setGen gi .running) (fun r s' => r = .ok .next ∧ ∃ H', Inv (genCx X s0 H0 cenv fp [(a, go)]) [] σG H' s' ∧ Q (.bl false) H') (Woke2 X s0 H0 cenv fp [(a, go)] elt t0 i0 t1 i1 scope pos it n tn a1 σG Q G m)
theorem any_loop2 {σ : L2.St} {k : Nat} {pins : List (Addr × Obj)} {R : Result → Shared → Prop}
    (I0 : Inv X pins σ H0 s0) (hfp : ∀ b ∈ fp, FpOk X pins H0 b) (hr : Room (k + 1) X.A)
    (hcalm : X.calm = true) (hco : cenv.scope.isCoroutine = false) (T : Turn X.prog X.w X.K t0 (Itr 0 n) fp it tn) (hpn : a ∉ fp) (hgen : ∀ h : Heap, h.get? a = some go → h.IsGen a gi)
    (pg0 : PG (genCx X s0 H0 cenv fp [(a, go)]) t0 (gName a1)) (pg1 : PG (genCx X s0 H0 cenv fp [(a, go)]) t1 (gName a2)) (pe : PE (genCx X s0 H0 cenv fp [(a, go)]) elt te) (pi1 : PI (genCx X s0 H0 cenv fp [(a, go)]) t1 i1 wi)
    (hsf : ∀ x, foldedSetIterable i1 cenv x = pure x)
    (PW : PairsW X te wi n a1 a2 σG Q G) (ha2 : σG[a2]? = some none) (ha1 : σG[a1]? = some none) (h12 : a1 ≠ a2)
    (hR : ∀ b H s, Inv X pins σ H s → Q (.bl b) H → R (.ok (.ret (.bool b))) s) :
    ∀ (m : Nat) (s : Shared), At2 X s0 H0 cenv fp go elt t0 i0 t1 i1 scope pos it n tn a1 σG Q G a gi m s → codeAny (model X.prog X.w) X.A (.builtin "any.loop" ⟨[.ref a], []⟩) R s := by
  have hpn' : ∀ p ∈ [(a, go)], p.1 ∉ fp := fun p hp => by
    rw [List.mem_singleton.mp hp]
    exact hpn
  intro m
  induction m using Nat.strongRecOn with
  | _ m ih =>
    intro s ⟨⟨σ1, H1, I1⟩, gs, hgs, hgo⟩
    refine codeAny_builtin PySem.F.entry_any_loop ?_
    rw [Around.under_plainId PySem.F.plain_any_loop _]
    show wpAny _ X.A.in1 (pyNext (.ref a) >>= _) _ _ s
    have hgl : gi < s.gens.size := (Array.getElem?_eq_some_iff.mp hgs).1
    have hd : X.A.handled = none := hr.hd
    have pin : s.heap.IsGen a gi := hgen _ (I1.pin (a, go) (List.mem_append_left _ (List.mem_singleton.mpr rfl))).1
    refine wpAny_bind (wpAny_gsz (n := gi + 1) hgl (next_genX (A := X.A.in1) (gs := gs) (Fi := fun s' => ∃ H', Inv (genCx X s0 H0 cenv fp [(a, go)]) [] σG H' s' ∧ Q (.bl false) H') hd I1.nolimit hr.depth pin hgs hgo (fun v s1 gs' hb' hv => ?_) (fun s1 hp h' hk => ?_)))
    · intro hsz
      have hsz1 : gi < s1.gens.size := by
        have q2 : (s1.setGen gi gs').gens.size = s1.gens.size := setGen_size _ _ _
        have hsz' : gi + 1 ≤ (s1.setGen gi gs').gens.size := hsz
        omega
      obtain ⟨b, H', i, j, it1, fp1, tn1, fr, rfl, hi, hj, hm, q, IA, hf, hl⟩ := hv
      refine wpAny_bind (wpAny_holding (wpAny_truthy_bool ?_))
      refine wpAny_bind (wpAny_letGo ?_)
      cases b with
      | true =>
        simp only [if_true] at q ⊢
        refine wpAny_bind (wpAny_rule (wpAny_pure ?_))
        exact hR true H' _ (gen_back I0 hfp (inv_gens IA.inv hb')) q
      | false =>
        simp only [Bool.false_eq_true, if_false] at q ⊢
        refine wpAny_pure ⟨plainId_quiet PySem.F.plain_any_loop _, ih _ hm _ ⟨⟨_, H', inv_gens IA.inv hb'⟩, gs', setGen_at hsz1, ?_⟩⟩
        exact hl _ _ _ (seg_woke (a1 := a1) (a2 := a2) (X := X) (te := te) (wi := wi) hcalm hco T hpn' pg0 pg1 pe pi1 hsf PW hf ha2 ha1 h12 hi hj ⟨inv_gens (inv_gens IA.inv hb') rfl, IA.st, IA.nf, IA.tu, IA.st1, IA.f1, IA.dj⟩ q)
    · intro _
      obtain ⟨H', I', q⟩ := hp
      refine wpAny_bind (wpAny_rule (wpAny_pure ?_))
      exact hR false H' _ (gen_back I0 hfp ((inv_gens (g := gi) (gs := .finished) I' rfl).kept (t' := s1.toks) hk)) q
theorem gen_fresh2 {J : It} {i : Nat} {s : Shared} {Re : Result → Shared → Prop} {Yi : Value → GenState → Shared → Prop}
    (T : Turn X.prog X.w X.K t0 J fp it tn) (st : tn i s.heap)
    (loop : SegX (model X.prog X.w) X.A.in1.in1 (.compLoop (gexp2 elt t0 i0 t1 i1 scope pos) 0 (.ref it) .none cenv) ((model X.prog X.w).den (.compLoop (gexp2 elt t0 i0 t1 i1 scope pos) 0 (.ref it) .none cenv)) [] s Re Yi) :
    SegX (model X.prog X.w) X.A.in1.in1 (.compStart (gexp2 elt t0 i0 t1 i1 scope pos) 0 (.ref it) .none cenv) ((model X.prog X.w).den (.compStart (gexp2 elt t0 i0 t1 i1 scope pos) 0 (.ref it) .none cenv)) [] s Re Yi := by
  show SegX _ _ _ ((compStart (gexp2 elt t0 i0 t1 i1 scope pos) 0 (.ref it) .none cenv).onRaise (leaving cenv)) [] s _ _
  unfold compStart
  rw [Sem.onRaise_eq_wrap]
  show SegX _ _ _ ((ask >>= _).wrap _ _ _ _) [] s _ _
  refine segx_bind_wrap (wpAny_askSetting ?_)
  split
  · exact segx_again rfl loop
  · first
      | exact segx_bind_wrap (wpAny_rule (segx_bind_wrap (wpAny_standAt (segx_bind_wrap (T.self _ i s _ _ st (segx_again rfl loop))))))
      | (refine segx_bind_wrap (wpAny_rule ?_); show SegX _ _ _ ((standAt i0.pos >>= _).wrap _ _ _ _) [] s _ _; exact segx_bind_wrap (wpAny_standAt (segx_bind_wrap (T.self _ i s _ _ st (segx_again rfl loop)))))
end

/-- any(elt for one in range(n) for other in range(n)) -/
def KAny2 (X : Cx) (te : TE) (wi : TI) (a1 a2 : Nat) (vs : List Nat) (σ : L2.St) (Q : VK) : It → Value → Hp → Prop := fun J cv H2 =>
  ∃ n, J = Itr 0 n ∧ ∃ G : List (Nat × Nat) → Hp → Prop, PairsW X te wi n a1 a2 (wipe σ vs) Q G ∧ (if 0 < n then G (rem2 n 0 0) H2 else G [] H2) ∧ (wipe σ vs)[a1]? = some none ∧ (wipe σ vs)[a2]? = some none
def tAny2 (T : List (Addr × Str)) (X : Cx) (q : Str) (wi0 : TI) (te : TE) (wi : TI) (a1 a2 : Nat) (vs : List Nat) : TE := fun σ H Q => wi0 σ H fun J H1 => tGenC T X q (KAny2 X te wi a1 a2 vs σ Q J) H1
section
variable {X : Cx} {T : List (Addr × Str)} {elt t0 i0 t1 i1 : Expr} {scope : Scope} {own : List (Str × Nat)} {p pos gpos : Pos} {wi0 wi : TI} {te : TE} {k a1 a2 : Nat} {P0 : Addr}
theorem pe_any2 (hr : Room (k + 3) X.A) (hc : X.calm = true) (hN : X.N.Nodup) (hg : Gl X "any") (hm : X.mg "any" = none) (hB : X.base.BuiltinsAt X.mg P0) (hi : PI X t0 i0 wi0) (ok : GenOk X scope own) (h12 : a1 ≠ a2)
    (pg0 : ∀ (s : Shared) (H : Hp) (C : Addr) (cv : Value) (fp : List Addr) (pn : List (Addr × Obj)), PG (genCx X s H (gEnv X scope C cv) fp pn) t0 (gName a1))
    (pg1 : ∀ (s : Shared) (H : Hp) (C : Addr) (cv : Value) (fp : List Addr) (pn : List (Addr × Obj)), PG (genCx X s H (gEnv X scope C cv) fp pn) t1 (gName a2))
    (pi1 : ∀ (s : Shared) (H : Hp) (C : Addr) (cv : Value) (fp : List Addr) (pn : List (Addr × Obj)), Room k (genCx X s H (gEnv X scope C cv) fp pn).A → PI (genCx X s H (gEnv X scope C cv) fp pn) t1 i1 wi)
    (pe : ∀ (s : Shared) (H : Hp) (C : Addr) (cv : Value) (fp : List Addr) (pn : List (Addr × Obj)), Room k (genCx X s H (gEnv X scope C cv) fp pn).A → PE (genCx X s H (gEnv X scope C cv) fp pn) elt te)
    (hs : ∀ v, genFold i0 X.env v = pure v) (hsf : ∀ C cv x, foldedSetIterable i1 (gEnv X scope C cv) x = pure x)
    (he : starEach [gexp2 elt t0 i0 t1 i1 scope gpos] X.env = (false, eval (gexp2 elt t0 i0 t1 i1 scope gpos) X.env) :: starEach [] X.env := by rfl) :
    PE X (.Call (.Name "any" p) [gexp2 elt t0 i0 t1 i1 scope gpos] [] pos) (tAny2 T X (X.env.qual ++ "<genexpr>") wi0 te wi a1 a2 (own.map (·.2))) := by
  refine ⟨fun pins s σ H Q I h => ?_⟩
  refine wpAny_Call_Name_kw (ld_blt I hg hm boot_any ?_)
  refine PyProof.Rows.callWith_builtin1 ?_ he (by rfl)
  rw [he]
  show wpAny _ _ (spliced ((false, eval (gexp2 elt t0 i0 t1 i1 scope gpos) X.env) :: backTo pos (starEach [] X.env))) _ _ s
  refine Calls.spliced_cons (gen_make2 (T := T) (KK := KAny2 X te wi a1 a2 (own.map fun (x : Str × Nat) => x.2) σ Q) hr hc hN hB hi ok hs I h fun J cv H2 a s5 s3 C fp tn it go gi R ⟨n, eJ, G, PW, g0, ha1, ha2⟩ => ?_)
  subst eJ
  refine Calls.spliced_nil ?_
  refine call_function_tree PySem.F.kind_any PySem.F.plain_any PySem.F.entry_any (PySem.F.args_any1 _) ?_
  unfold Builtin.«any»
  refine wpAny_bind (m := oneArg "any" _) (wpAny_pure ?_)
  refine wpAny_bind (wpAny_pyIter_gen R.isg ?_)
  refine wpAny_pure ⟨plainId_quiet PySem.F.plain_any_loop _, ?_⟩
  have hrA : Room k (genCx X s3 H2 (gEnv X scope C cv) fp [(a, go)]).A := (hr.in1.in1).deeper _
  have hco : (gEnv X scope C cv).scope.isCoroutine = false := ok.co
  have hpn' : ∀ p ∈ [(a, go)], p.1 ∉ fp := fun p hp => by
    rw [List.mem_singleton.mp hp]
    exact R.apart
  have loop := seg_out (X := X) (i0 := i0) (pos := gpos) (scope := scope) (m := (rem2 n 0 0).length) (s := s5.setGen gi .running) hc hco R.tu hpn' (pg0 s3 H2 C cv fp _) (pg1 s3 H2 C cv fp _) (pe s3 H2 C cv fp _ hrA) (pi1 s3 H2 C cv fp _ hrA) (hsf C cv) PW ha2 h12 (Nat.zero_le n) (fun _ => rfl) (inv_gens (gs := .running) R.inv0 rfl) R.st R.nf g0
  refine codeAny_mono (any_loop2 (X := X) (Q := Q) (R := fun r s' => ∃ v, r = .ok (.ret v) ∧ EP X pins σ Q v s') R.inv R.fp_ hr hc hco R.tu R.apart R.gen (pg0 s3 H2 C cv fp _) (pg1 s3 H2 C cv fp _) (pe s3 H2 C cv fp _ hrA) (pi1 s3 H2 C cv fp _ hrA) (hsf C cv) PW ha2 ha1 h12
    (fun b H' s' I' q' => ⟨_, rfl, .bl b, H', I', rfl, q'⟩) _ s5 ⟨⟨_, _, R.inv0⟩, _, R.gs, gen_fresh2 (X := X) (s := s5.setGen gi .running) R.tu R.st loop⟩) fun r s' hq => ?_
  obtain ⟨v, rfl, hq⟩ := hq
  exact hq
end
end PM
namespace PM
open PySem PySem.Spec PyProof.Rows L2 GenW

/-! ### enumerate(tuple) -/
def IteT (K : PySem.W.Frag) (a : Addr) : It :=
  ⟨fun i H => ∃ (xs : List V) (x : V), SqT K H a xs ∧ xs[i]? = some x, fun i H v H' => ∃ T x, v = .ref T ∧ H T = none ∧ H' = upd H T (.tup [.int (i : Nat), x]) ∧ ∀ xs, SqT K H a xs → xs[i]? = some x, fun i H => ∃ xs : List V, SqT K H a xs ∧ xs.length ≤ i⟩
theorem isTup_tuple {h : Heap} {a : Addr} {vs : Array Value} (p : IsTup h a vs) : h.IsTuple a vs := p
theorem turn_enumT {P : Program} {w : World} {K : PySem.W.Frag} {elts : List Expr} {kk : Nat} {tpos : Pos} (a e it : Addr) :
    Turn P w K (.Tuple elts kk tpos) (IteT K a) [e, it] e (fun i h => (∃ old, IsEnum h e it ((i : Nat) : Int) old) ∧ h.IsTupleIter it a i ∧ e ≠ it) where
  mem := by simp
  obj := fun i h st b hb => by
    obtain ⟨⟨old, he⟩, ⟨o, ho, hc, hd⟩, _⟩ := st
    have e' : b = e ∨ b = it := by simpa using hb
    rcases e' with z | z
    · rw [z]; exact ⟨_, he, fun v q => nomatch q⟩
    · rw [z]; exact ⟨o, ho, fun v q => by rw [hd] at q; cases q⟩
  keep := fun i h h' st k => let ⟨⟨old, he⟩, hi, hne⟩ := st; ⟨⟨old, k e (by simp) _ he⟩, hi.at fun o q => k it (by simp) o q, hne⟩
  item := by
    intro X hP hw hK hc i pins s σ H E I hf st hg
    subst hP hw hK
    obtain ⟨⟨old, he⟩, hit, hne⟩ := st
    obtain ⟨xs, x, hq, hx⟩ := hg
    obtain ⟨its, rv, p, hz⟩ := I.tuple hq
    obtain ⟨u, hu, ru⟩ := rv.get hx
    have hel : e < s.heap.objs.size := Heap.lt_size he
    have hil : it < s.heap.objs.size := by obtain ⟨_, q, _⟩ := hit; exact Heap.lt_size q
    have hp : s.heap.IsTuple a its.toArray := p
    have hea : e ≠ a := fun z => by
      obtain ⟨o, ho, hc, _⟩ := hp
      rw [← z, he] at ho
      cases ho
      exact absurd (Value.type.inj hc) (by decide)
    have hai : a ≠ it := fun z => by
      obtain ⟨o, ho, hc, _⟩ := hp
      obtain ⟨o2, ho2, hc2, _⟩ := hit
      rw [z, ho2] at ho
      cases ho
      rw [hc2] at hc
      exact absurd (Value.type.inj hc) (by decide)
    have hi : i < its.toArray.size := by
      have := (List.getElem?_eq_some_iff.mp hu).1
      simpa using this
    refine wpAny_pyNext_enum_itemC (Draws.tuple (A := X.A.in1) (I.ok.hd hc) it a hai its.toArray) he ⟨hit, hp⟩ hi hne (by simp [hne, hea]) fun x' h' tk hPx ho st' hT hsz hk => ?_
    have ex : x' = u := by
      have e2 : its.toArray[i]? = some u := by simpa using hu
      have e1 : its.toArray[i]? = some x' := hPx
      rw [e2] at e1
      exact (Option.some.inj e1).symm
    subst ex
    refine ⟨_, rfl, wpAny_letOwnedTupleGo_enum (s := { s with heap := h', toks := tk + 1 }) ho fun h'' he' sb => ?_⟩
    have hT2 : h''.get? s.heap.objs.size = some { cls := .type "tuple", data := .seq #[.int i tk, x'] } := (sb.2 _ (Nat.ne_of_gt hel)).trans hT
    have new : ObjOk X.prog X.w (upd H s.heap.objs.size (.tup [.int (i : Nat), x])) h'' s.heap.objs.size (.tup [.int (i : Nat), x]) :=
      ⟨by show 2 ≤ sizeLine; decide, [.int i tk, x'], .cons ⟨_, rfl⟩ (.cons ru .nil), ⟨_, hT2, rfl, _, rfl⟩⟩
    have I1 : Inv X pins σ (upd H s.heap.objs.size (.tup [.int (i : Nat), x])) { s with heap := h'', toks := tk + 1 } :=
      I.turnedNew (ch := [e, it]) (fun b ob hb q => (sb.2 b (fun z => hb (by simp [z]))).trans (hk b ob (fun z => hb (by simp [z])) (fun z => hb (by simp [z])) q)) hf (Nat.le_refl _) new
    refine ⟨.ref s.heap.objs.size, _, I1, rfl, ⟨_, x, rfl, I.hok.fresh (Nat.le_refl _), rfl, fun ys hy => by rw [I.tuple_inj hy hq]; exact hx⟩, ⟨⟨x', ?_⟩, st'.1.at fun o q => (sb.2 it (Ne.symm hne)).trans q, hne⟩, fun b hb => ?_⟩
    · have e1 : ((i + 1 : Nat) : Int) = (i : Int) + 1 := by omega
      rw [e1]; exact he'
    · have hb' : b < s.heap.objs.size := by
        have e' : b = e ∨ b = it := by simpa using hb
        rcases e' with z | z
        · rw [z]; exact hel
        · rw [z]; exact hil
      rw [upd_ne (Nat.ne_of_lt hb')]
      exact (hf b hb).1
  done := by
    intro X hP hw hK hc i pins s σ H E I hf st hg
    subst hP hw hK
    obtain ⟨⟨old, he⟩, hit, hne⟩ := st
    obtain ⟨xs, hq, hx⟩ := hg
    obtain ⟨its, rv, p, hz⟩ := I.tuple hq
    obtain ⟨f0, f1, f2, f3, f4, f5⟩ := hf it (by simp)
    have hl := rv.length
    have hT : s.TypeIs (.ref e) "enumerate" := ⟨_, he, rfl⟩
    unfold pyNext
    refine wpAny_bind (wpAny_attempt (wpAny_callSpecial?_slot (name := Str.ofString "__next__") hT F.slot_enumerate_next
      (wpAny_call_entry F.slot_enumerate_next hT F.entry_enumerate_next ?_ (F.args_enumerate_next_1 _))))
    show wpAny _ _ (field (.ref e) 2 >>= _) _ _ _
    refine wpAny_bind (wpAny_field he rfl (x := .ref it) rfl ?_)
    refine wpAny_bind (wpAny_nextOf_tuple_end (A := X.A.in1) (I.ok.hd hc) hit (isTup_tuple p) (by simp; omega) fun h' x he' hx' => ?_)
    obtain ⟨o, ho, hc⟩ := hx'
    refine wpAny_bind (wpAny_isInstance (T := "StopIteration") (b := true) ⟨o, ho, hc⟩ isSubtype_stop ?_)
    exact wpAny_pure ⟨rfl, I.turned (t' := s.toks) (fun b o hb q => he' b o hb q) f0 f1 f3 f4 f5⟩
  self := fun A i s Q E st h => let ⟨⟨_, he⟩, _⟩ := st; wpAny_pyIter_enum he h
theorem meets_enumerate_newT (t : Addr) (items : Array Value) :
    Meets (Builtin.«enumerate.__new__» ⟨[.type "enumerate", .ref t], []⟩) (fun _ R s => s.heap.IsTuple t items ∧
      R (.ok (.ret (.ref (s.heap.push { cls := .type "tuple_iterator", data := .fields #[.ref t, .int 0 0] }).objs.size)))
        { s with heap := (s.heap.push { cls := .type "tuple_iterator", data := .fields #[.ref t, .int 0 0] }).push { cls := .type "enumerate", data := .fields #[.none, .bool false, .ref s.heap.objs.size, rawInt 0, .none, .none] } }) :=
  .of_wp fun prog w A R s h => by
    obtain ⟨hp, g, d, tk, os⟩ := s; obtain ⟨h1, h⟩ := h
    have hsub := sub_enumerate
    have q1 : ∀ {A' : Around} {E : Value → Shared → Prop} {Q : Value → Shared → Prop}, Q (.ref hp.objs.size) ⟨hp.push { cls := .type "tuple_iterator", data := .fields #[.ref t, .int 0 0] }, g, d, tk, os⟩ → wpAny (model prog w) A' (pyIter (.ref t)) Q E ⟨hp, g, d, tk, os⟩ :=
      fun q => (begins_tuple t items).iter prog w _ _ ⟨hp, g, d, tk, os⟩ _ h1 q
    wp_walk using q1
    refine wpAny_stack_any fun st => wpAny_pure ?_
    split
    · rename_i c _ _ _ _ _
      cases (c == Value.type "enumerate")
      · wp_walk using q1
        exact ⟨_, rfl, h⟩
      · wp_walk using q1
        exact ⟨_, rfl, h⟩
    · wp_walk using q1
      exact ⟨_, rfl, h⟩
theorem call_enumerate_tuple {prog : Program} {w : World} {A : Around} {E : Value → Shared → Prop} {s : Shared} {l : Addr} {items : Array Value} {Q : Value → Shared → Prop} (hL : s.heap.IsTuple l items)
    (h : ∀ h', IsEnum h' (s.heap.objs.size + 1) s.heap.objs.size 0 .none → h'.IsTupleIter s.heap.objs.size l 0 → h'.objs.size = s.heap.objs.size + 2 →
      (∀ b o, s.heap.get? b = some o → h'.get? b = some o) → Q (.ref (s.heap.objs.size + 1)) { s with heap := h' }) :
    wpAny (model prog w) A (call (.type "enumerate") [.ref l]) Q E s := by
  refine callType_new F.called_enumerate (by decide) (F.typeCall_enumerate_1 _) (F.newCall_enumerate_1 _) (fun obj => F.args_object_init_2 obj _) F.entry_enumerate_new
    (meets_enumerate_newT l items) ⟨hL, ?_⟩
  have hz : (s.heap.push { cls := .type "tuple_iterator", data := .fields #[.ref l, .int 0 0] }).objs.size = s.heap.objs.size + 1 := Heap.size_push ..
  show _ ∧ _
  rw [hz]
  have he : IsEnum ((s.heap.push { cls := .type "tuple_iterator", data := .fields #[.ref l, .int 0 0] }).push
      { cls := .type "enumerate", data := .fields #[.none, .bool false, .ref s.heap.objs.size, rawInt 0, .none, .none] }) (s.heap.objs.size + 1) s.heap.objs.size 0 .none := by
    have := Heap.get?_push_size (s.heap.push { cls := .type "tuple_iterator", data := .fields #[.ref l, .int 0 0] })
      (o := { cls := .type "enumerate", data := .fields #[.none, .bool false, .ref s.heap.objs.size, rawInt 0, .none, .none] }) rfl
    rw [hz] at this; exact this
  refine ⟨⟨_, he, rfl⟩, h _ he ⟨_, Heap.get?_push_of_some _ (Heap.get?_push_size _ rfl), rfl, rfl⟩ (by rw [Heap.size_push, hz]) fun b o x => Heap.get?_push_of_some _ (Heap.get?_push_of_some _ x)⟩
def iEnumT (K : PySem.W.Frag) (ta : TA) : TI := fun σ H R => ta σ H fun vs H1 => ∃ a xs, vs = [.ref a] ∧ SqT K H1 a xs ∧ R (IteT K a) H1
theorem pi_enumT {X : Cx} {e : Expr} {ta : TA} {p pos tpos : Pos} {elts : List Expr} {kk : Nat} (hg : Gl X "enumerate") (hm : X.mg "enumerate" = none) (ha : PA X [e] ta) (hs : starEach [e] X.env = [(false, eval e X.env)] := by rfl) :
    PI X (.Tuple elts kk tpos) (.Call (.Name "enumerate" p) [e] [] pos) (iEnumT X.K ta) := by
  refine ⟨fun pins s σ H R I h => ?_⟩
  refine Call_ (ld_blt I hg hm boot_enumerate (PyProof.Rows.callWith_type1 (thn (ha.run pos pins s σ H _ I h) fun us s1 ⟨vs, H1, I1, r1, q1⟩ => ?_) hs rfl))
  obtain ⟨a, xs, ex, hq, q⟩ := q1
  subst ex
  cases r1 with
  | cons r rr =>
    cases rr
    cases r
    obtain ⟨its, rv, p', hz⟩ := I1.tuple hq
    refine call_enumerate_tuple (isTup_tuple p') fun h' he hit hsz hk => wpAny_pyIter_enum he ?_
    have I2 : Inv X pins σ H1 { s1 with heap := h' } := I1.kept (t' := s1.toks) hk
    refine ⟨s1.heap.objs.size + 1, [s1.heap.objs.size + 1, s1.heap.objs.size], _, _, H1, rfl, I2, turn_enumT a (s1.heap.objs.size + 1) s1.heap.objs.size, ⟨⟨.none, he⟩, hit, Nat.succ_ne_self _⟩, fun b hb => ?_, q⟩
    have e' : b = s1.heap.objs.size + 1 ∨ b = s1.heap.objs.size := by simpa using hb
    have hle : s1.heap.objs.size ≤ b := by
      rcases e' with z | z
      · rw [z]; exact Nat.le_add_right _ _
      · rw [z]; exact Nat.le_refl _
    exact I1.fpOk hle (I1.hok.fresh hle)

/-! ### list(reversed(list)) -/
theorem wpAny_extend_rev {prog : Program} {w : World} {A : Around} {s : Shared} {R : Result → Shared → Prop} {it l : Addr} {items : Array Value} (hh : A.handled = none) (hit : s.heap.IsRevIter it l ((items.size : Int) - 1)) (hl : s.heap.IsList l items) (hne : l ≠ it) (hn : items.size ≤ sizeLine)
    (S : Addr) (res : Value) (c0 : Nat) (hSi : S ≠ it) (hSl : S ≠ l) (hS : s.heap.get? S = some { cls := .type "list", data := .seq #[] c0 })
    (hR : ∀ (h' : Heap) (tk : Nat) (acc : Array Value) (c' : Nat), (∀ b o, b ≠ S → b ≠ it → s.heap.get? b = some o → h'.get? b = some o) → h'.get? S = some { cls := .type "list", dict := none, data := .seq acc c', slots := #[] } →
      ItemsOf (fun i v => items[items.size - 1 - i]? = some v) acc items.size → R (.ok (.ret res)) { s with heap := h', toks := tk }) :
    wpAny (model prog w) A.in1 (Builtin.List.listExtendWith (.ref S) (.ref it) res)
      (fun fin s' => match fin with | .done f => R (.ok f) s' | .again c' => c'.quiet = true ∧ codeAny (model prog w) A c' R s') (fun e s' => R (.error e) s') s := by
  have W := (Walks.listRev (prog := prog) (w := w) (A := A.in1) hh it l hne items).toS
  have hSf : S ∉ [it, l] := by simp only [List.mem_cons, List.not_mem_nil, or_false, not_or]; exact ⟨hSi, hSl⟩
  have hT : s.TypeIs (.ref it) "list_reverseiterator" := Heap.IsRevIter.typeIs hit
  have h1 : Builtin.List.listSameRef (.ref S) (.ref it) = false := by simp [Builtin.List.listSameRef, hSi]
  unfold Builtin.List.listExtendWith
  refine wpAny_bind (wpAny_typeOf hT ?_)
  rw [if_neg (by rw [h1]; decide)]
  refine wpAny_bind (wpAny_pyIter_revIter hit ?_)
  refine wpAny_bind (wpAny_holding ?_)
  unfold Builtin.List.listLengthHint
  refine wpAny_bind (wpAny_specialOf hT RT.nolen_lri ?_)
  show wpAny _ A.in1 (specialOf (Value.ref it) (Str.ofString "__length_hint__") >>= _) _ _ _
  refine wpAny_bind (wpAny_specialOf hT RT.hint_lri ?_)
  generalize hid : ("list_reverseiterator.__length_hint__" : String) = id0
  wp_delta
  rw [show splitId id0 = some ("list_reverseiterator", "__length_hint__") from by subst hid; decide +kernel]
  subst hid
  refine wpAny_bind (wpAny_isInstance (b := true) hT (by rw [isSubtype_type]; kernel_rfl) ?_)
  refine wpAny_pure ?_
  rw [if_neg (by decide)]
  have e0 : ((items.size : Nat) : Int) - 1 - ((0 : Nat) : Int) = (items.size : Int) - 1 := by omega
  refine wpAny_pure ⟨plainId_quiet F.plain_extend_loop _, codeAny_extend_loopS W hn _ hSf _ items.size 0 _ _ _ rfl (Nat.zero_le _) ⟨Nat.zero_le _, by rw [e0]; exact hit, hl⟩ hS (ItemsOf.nil _) fun s' acc' c' hm hS' hacc => ?_⟩
  rw [Moved.eq_with hm]
  refine hR s'.heap s'.toks acc' c' (fun b o hb hb2 e => hm.heap b o (fun hmem => ?_) e) hS' hacc
  rcases List.mem_cons.mp hmem with e' | hmem
  · exact hb e'
  · exact hb2 (List.mem_singleton.mp hmem)
theorem call_list_rev {prog : Program} {w : World} {A : Around} {E : Value → Shared → Prop} {s : Shared} {it l : Addr} {items : Array Value} {Q : Value → Shared → Prop} (hh : A.handled = none) (hit : s.heap.IsRevIter it l ((items.size : Int) - 1)) (hl : s.heap.IsList l items) (hne : l ≠ it) (hn : items.size ≤ sizeLine)
    (hQ : ∀ (h' : Heap) (tk : Nat) (acc : Array Value) (c' : Nat), (∀ b o, b ≠ it → s.heap.get? b = some o → h'.get? b = some o) → h'.get? s.heap.objs.size = some { cls := .type "list", dict := none, data := .seq acc c', slots := #[] } →
      ItemsOf (fun i v => items[items.size - 1 - i]? = some v) acc items.size → Q (.ref s.heap.objs.size) { s with heap := h', toks := tk }) :
    wpAny (model prog w) A (call (.type "list") [.ref it]) Q E s := by
  refine callType_codes (Q₁ := fun obj s₁ => obj = .ref s.heap.objs.size ∧ s₁ = { s with heap := s.heap.push { cls := .type "list", data := .seq #[] } }) F.called_list (F.typeCall_list_1 _) F.entry_list_init
    (code_list_new _ ⟨rfl, rfl⟩) fun obj s₁ h₁ => ?_
  obtain ⟨rfl, rfl⟩ := h₁
  obtain ⟨oi, hoi, _⟩ := id hit
  obtain ⟨ol, hol, _⟩ := id hl
  have hSi : s.heap.objs.size ≠ it := Nat.ne_of_gt (Heap.lt_size hoi)
  have hSl : s.heap.objs.size ≠ l := Nat.ne_of_gt (Heap.lt_size hol)
  have hS : (s.heap.push { cls := .type "list", data := .seq #[] }).get? s.heap.objs.size = some { cls := .type "list", data := .seq #[] } := Heap.get?_push_size _ rfl
  refine ⟨⟨_, hS, rfl⟩, F.args_list_init_2 _ _, ?_⟩
  show wpAny _ _ (do let old ← Builtin.List.listItems (.ref s.heap.objs.size); Builtin.List.listUpdate (.ref s.heap.objs.size) (fun _ => #[]); letGo old.toList.reverse; Builtin.List.listExtendWith (.ref s.heap.objs.size) (.ref it) .none) _ _ _
  refine wpAny_bind ?_
  unfold Builtin.List.listItems
  refine wpAny_bind (wpAny_seqItems hS rfl (wpAny_pure ?_))
  show wpAny _ _ (updateSeq s.heap.objs.size (fun _ => #[]) >>= fun _ => letGo (#[] : Array Value).toList.reverse >>= fun _ => Builtin.List.listExtendWith (.ref s.heap.objs.size) (.ref it) .none) _ _ _
  refine wpAny_bind (wpAny_updateSeq hS rfl ?_)
  have hS₂ := Heap.get?_update_self (Obj.mapSeq (fun _ => (#[] : Array Value))) hS rfl
  have oth : ∀ b o, b ≠ s.heap.objs.size → s.heap.get? b = some o → ((s.heap.push { cls := .type "list", data := .seq #[] }).update s.heap.objs.size (Obj.mapSeq (fun _ => (#[] : Array Value)))).get? b = some o :=
    fun b o hb e => (Heap.get?_update_other _ _ (Ne.symm hb)).trans (Heap.get?_push_of_some _ e)
  refine wpAny_bind (wpAny_letGo ?_)
  refine wpAny_extend_rev (A := A.in1) (s := { s with heap := (s.heap.push { cls := .type "list", data := .seq #[] }).update s.heap.objs.size (Obj.mapSeq (fun _ => (#[] : Array Value))) }) hh (hit.at fun o e => oth it o hSi.symm e) (hl.at fun o e => oth l o hSl.symm e) hne hn _ .none _ hSi hSl hS₂ fun h' tk acc c' hk hS' hacc => ?_
  exact ⟨rfl, hQ h' tk acc c' (fun b o hb e => hk b o (Nat.ne_of_lt (Heap.lt_size e)) hb (oth b o (Nat.ne_of_lt (Heap.lt_size e)) e)) hS' hacc⟩
def tLstRev (K : PySem.W.Frag) (te : TE) : TE := fun σ H Q => te σ H fun v H1 => ∃ (a : Addr) (xs : List V), v = .ref a ∧ SqL K H1 a xs ∧ ∀ q, H1 q = none → Q (.ref q) (upd H1 q (.lst xs.reverse))
section
variable {X : Cx}
theorem pe_lstRev {e : Expr} {te : TE} {p p2 pos pos2 : Pos} (hc : X.calm = true) (hg : Gl X "list") (hm : X.mg "list" = none) (hg2 : Gl X "reversed") (hm2 : X.mg "reversed" = none) (he : PE X e te)
    (hs : starEach [e] X.env = (false, eval e X.env) :: starEach [] X.env := by rfl)
    (hs2 : starEach [.Call (.Name "reversed" p2) [e] [] pos2] X.env = (false, eval (.Call (.Name "reversed" p2) [e] [] pos2) X.env) :: starEach [] X.env := by rfl) :
    PE X (.Call (.Name "list" p) [.Call (.Name "reversed" p2) [e] [] pos2] [] pos) (tLstRev X.K te) := by
  refine ⟨fun pins s σ H Q I h => ?_⟩
  refine Call_ (ld_blt I hg hm boot_list (PyProof.Rows.callWith_type1 (args_cons (Call_ (ld_blt I hg2 hm2 PyProof.Rows.boot_reversed (PyProof.Rows.callWith_type1 (args_cons (thn (he.run pins s σ H _ I h) fun u s1 ⟨v, H1, I1, r1, q1⟩ => args_nil ?_) hs) hs rfl))) hs2) hs2 rfl))
  obtain ⟨a, xs, ev, hq, q⟩ := q1
  subst ev
  obtain rfl : u = Value.ref a := r1
  obtain ⟨its, rv, p', hz⟩ := I1.list hq
  refine call_reversed_list p'.isList (args_nil ?_)
  have k0 : ∀ b o, s1.heap.get? b = some o → (s1.heap.push (revObj a ((its.toArray.size : Int) - 1))).get? b = some o := fun b o e => Heap.get?_push_of_some _ e
  have I2 : Inv X pins σ H1 { s1 with heap := s1.heap.push (revObj a ((its.toArray.size : Int) - 1)) } := I1.kept (t' := s1.toks) k0
  obtain ⟨f0, f1, f2, f3, f4, f5⟩ := I1.fpOk (H' := H1) (b := s1.heap.objs.size) (Nat.le_refl _) (I1.hok.fresh (Nat.le_refl _))
  have hl := p'.isList
  obtain ⟨ol, hol, _⟩ := id hl
  have hne : a ≠ s1.heap.objs.size := Nat.ne_of_lt (Heap.lt_size hol)
  have hn : its.toArray.size ≤ sizeLine := by rw [List.size_toArray, ← rv.length]; exact hz
  refine call_list_rev (s := { s1 with heap := s1.heap.push (revObj a ((its.toArray.size : Int) - 1)) }) (I1.ok.hd hc) ⟨_, Heap.get?_push_size _ rfl, rfl, rfl⟩ (hl.push _) hne hn fun h' tk acc c' hk hS' hi => ?_
  have I3 : Inv X pins σ H1 { s1 with heap := h', toks := tk } := I2.turned (t' := tk) (fun b o hb e => hk b o hb e) f0 f1 f3 f4 f5
  have nS : H1 (s1.heap.push (revObj a ((its.toArray.size : Int) - 1))).objs.size = none := I2.hok.fresh (Nat.le_refl _)
  refine ⟨.ref _, upd H1 (s1.heap.push (revObj a ((its.toArray.size : Int) - 1))).objs.size (.lst xs.reverse), ?_, rfl, q _ nS⟩
  have hx : Inv X pins σ (upd H1 (s1.heap.push (revObj a ((its.toArray.size : Int) - 1))).objs.size (.lst xs.reverse)) { s1 with heap := h', toks := tk } := by
    refine I2.turnedNew (ch := [s1.heap.objs.size]) (t' := tk) (fun b ob hb q => hk b ob (fun z => hb (by simp [z])) q) (fun b hb => ?_) (Nat.le_refl _) ⟨by rw [List.length_reverse]; exact hz, acc.toList, c', RT.vals_rev rv hi, by rw [Array.toArray_toList]; exact hS'⟩
    rw [List.mem_singleton.mp hb]
    exact ⟨f0, f1, f2, f3, f4, f5⟩
  exact hx
end
end PM
namespace PM
open PySem PySem.Spec PyProof.Rows L2 GenW

/-! ### sorted(tuple of ints) -/
section
variable {prog : Program} {w : World} {A : Around} {E : Value → Shared → Prop} {s : Shared}
theorem collect_tupleN {l : Addr} {vs : List Value} {Q : List Value → Shared → Prop} (hl : s.heap.IsTuple l vs.toArray)
    (h : Q vs { s with heap := (s.heap.push (seqObj "list" #[] 0)).update s.heap.objs.size (Obj.mapSeq (· ++ vs.toArray)) }) (hsz : vs.length ≤ sizeLine := by size_fits) :
    wpAny (model prog w) A (collect (.ref l)) Q E s := by
  obtain ⟨o, ho, hc, n, hd⟩ := id hl
  unfold collect
  refine wpAny_bind (wpAny_runValue (codeAny_builtin entry_proto_collect' ?_))
  show wpAny _ _ (do again (.builtin "list.__iadd__" ⟨[← newList [], .ref l], []⟩)) _ _ s
  refine wpAny_bind (wpAny_newList (wpAny_pure ⟨Code.quiet_builtin _ (by decide +kernel), codeAny_builtin entry_list_iadd' ?_⟩))
  show wpAny _ _ (Builtin.List.listExtendWith (.ref s.heap.objs.size) (.ref l) (.ref s.heap.objs.size)) _ _ { s with heap := s.heap.push (seqObj "list" #[] 0) }
  unfold Builtin.List.listExtendWith
  have ho' : (s.heap.push (seqObj "list" #[] 0)).get? l = some o := Heap.get?_push_of_some _ ho
  refine wpAny_bind (wpAny_typeOf (T := "tuple") ⟨o, ho', hc⟩ ?_)
  have ht : (Value.type "tuple" == Value.type "tuple") = true := by rfl
  rw [if_pos (by rw [ht]; simp)]
  refine wpAny_bind (listItems_at ho' hd ?_)
  refine wpAny_bind (listItems_at (xs := #[]) (n := 0) (Heap.get?_push_size _ rfl) rfl ?_)
  rw [if_neg (by simp)]
  refine wpAny_bind (listUpdate_at (xs := #[]) (n := 0) (Heap.get?_push_size _ rfl) rfl ?_ (Nat.zero_le _) (by show (#[] ++ vs.toArray).size ≤ sizeLine + 1; simp only [Array.size_append, List.size_toArray, List.length_nil]; omega))
  refine wpAny_pure ?_
  show wpAny (model prog w) A (do
      let o ← load s.heap.objs.size
      match o.data with
      | .seq xs _ => pure xs.toList
      | _ => unsupported "internal:collect") Q E { s with heap := (s.heap.push (seqObj "list" #[] 0)).update s.heap.objs.size (Obj.mapSeq (· ++ vs.toArray)) }
  refine wpAny_bind (wpAny_load (get?_update_seq (Heap.get?_push_size _ rfl) _) ?_)
  show wpAny _ _ (pure ((#[] : Array Value) ++ vs.toArray).toList) Q E _
  rw [show ((#[] : Array Value) ++ vs.toArray).toList = vs by simp]
  exact wpAny_pure h
open SrtO in
theorem sorted_ordT {l : Addr} {vs : List Value} {ltv : Value → Value → Bool} {Q : Value → Shared → Prop} (O : Swo ltv) (hl : s.heap.IsTuple l vs.toArray) (hz : vs.length ≤ sizeLine)
    (hS : 2 ≤ vs.length → ∀ (h₁ : Heap) (a : Addr), h₁.get? a = some (seqObj "list" vs.toArray 0) → (∀ b o, s.heap.get? b = some o → b ≠ a ∧ h₁.get? b = some o) → SortableO prog w A.in1.in1 { s with heap := h₁ } a vs ltv)
    (h : ∀ out : List Value, Srtd ltv out → Stb ltv out vs → Q (.ref (s.heap.objs.size + 1)) { s with heap := sortedAll s.heap vs out.toArray }) :
    wpAny (model prog w) A (call (.builtin "sorted") [.ref l]) Q E s := by
  refine Calls.call_function_entry kind_sorted plain_sorted entry_sorted (args_sorted1 _) ?_
  unfold Builtin.«sorted»
  refine wpAny_bind (m := checkCount "sorted" 1 1 _) (wpAny_pure ?_)
  refine wpAny_bind (collect_tupleN hl ?_ hz)
  refine wpAny_bind (wpAny_newList ?_ hz)
  have hsz : ((s.heap.push (seqObj "list" #[] 0)).update s.heap.objs.size (Obj.mapSeq (· ++ vs.toArray))).objs.size = s.heap.objs.size + 1 := by
    rw [Heap.size_update, size_push']
  have hoL : (((s.heap.push (seqObj "list" #[] 0)).update s.heap.objs.size (Obj.mapSeq (· ++ vs.toArray))).push (seqObj "list" vs.toArray 0)).get? (s.heap.objs.size + 1) = some (seqObj "list" vs.toArray 0) := by
    rw [← hsz]; exact Heap.get?_push_size _ rfl
  have keep : ∀ b o, s.heap.get? b = some o → b ≠ s.heap.objs.size + 1 ∧ (((s.heap.push (seqObj "list" #[] 0)).update s.heap.objs.size (Obj.mapSeq (· ++ vs.toArray))).push (seqObj "list" vs.toArray 0)).get? b = some o := fun b o q => by
    have hlt : b < s.heap.objs.size := Heap.lt_size q
    refine ⟨Nat.ne_of_lt (Nat.lt_succ_of_lt hlt), Heap.get?_push_of_some _ ?_⟩
    rw [Heap.get?_update_ne _ _ _ _ (Nat.ne_of_lt hlt)]
    exact Heap.get?_push_of_some _ q
  show wpAny _ _ _ _ _ { s with heap := ((s.heap.push (seqObj "list" #[] 0)).update s.heap.objs.size (Obj.mapSeq (· ++ vs.toArray))).push (seqObj "list" vs.toArray 0) }
  rw [hsz]
  refine wpAny_bind (wpAny_holding (wpAny_call_entry slot_list_sort ⟨_, hoL, rfl⟩ entry_list_sort (list_sort_ord O hoL hz (fun h2 => hS h2 _ _ hoL keep) fun out hs hb => ⟨_, rfl, ?_⟩) (args_list_sort _)))
  exact wpAny_pure ⟨_, rfl, h out hs hb⟩
end
section
variable {X : Cx}
def rSortedTI (K : PySem.W.Frag) : List V → Hp → VK → Prop := fun vs H Q => ∃ (a : Addr) (ns : List Int), vs = [V.ref a] ∧ SqT K H a (ns.map V.int) ∧
  ∀ (ns' : List Int) (p : Addr), ns'.Perm ns → ns'.Pairwise (· ≤ ·) → H p = none → Q (.ref p) (upd H p (.lst (ns'.map V.int)))
theorem cr_sortedTI : CallR X (.builtin "sorted") (rSortedTI X.K) := by
  intro pins s σ H vs us Q I r h
  obtain ⟨a, ns, rfl, hs, q⟩ := h
  obtain ⟨its, rv, hl, hz⟩ := I.tuple hs
  rw [Vals.ref1 r]
  have hi := rv.ints
  refine sorted_ordT SrtO.swo_int hl (by rw [← rv.length]; exact hz) (fun h2 h₁ a' _ _ => SrtO.ints_sortable hi h2) fun out h1 h2 => ?_
  obtain ⟨k1, k2, k3⟩ := SrtO.ints_out hi h1 h2
  obtain ⟨ep, he'⟩ := PyProof.Rows.sortedAll_at s.heap its out.toArray
  have hlen : ((out.map SrtO.iv).map V.int).length ≤ sizeLine := by
    rw [List.length_map, k2.length_eq]
    rw [List.length_map] at hz
    exact hz
  exact ⟨.ref _, upd H (s.heap.objs.size + 1) (.lst ((out.map SrtO.iv).map V.int)), I.laid (t' := s.toks) (fun _ _ => PyProof.Rows.sortedAll_old) (Nat.le_succ _) ⟨hlen, out, ep, vals_of_ints k1, he'⟩, rfl, q _ _ k2 k3 (I.hok.fresh (Nat.le_succ _))⟩
/-- sorted(list or tuple of ints) -/
theorem cr_sortedA : CallR X (.builtin "sorted") (fun vs H Q => rSortedI X.K vs H Q ∨ rSortedTI X.K vs H Q) := cr_sortedI.or cr_sortedTI

/-! ### min(list, default=0) -/
theorem intsData : ∀ ns : List Int, PySem.W.AlikeAll (ns.map PyData.int) := fun ns => ⟨fun x hx y hy => by
  obtain ⟨i, _, rfl⟩ := List.mem_map.mp hx
  obtain ⟨j, _, rfl⟩ := List.mem_map.mp hy
  simp [PySem.W.alike], fun x hx => by
  obtain ⟨i, _, rfl⟩ := List.mem_map.mp hx
  intro z
  cases z⟩
theorem intsDepth : ∀ ns : List Int, PyData.depthAll (ns.map PyData.int) ≤ 1
  | [] => by simp [PyData.depthAll]
  | n :: ns => by
    have := intsDepth ns
    simp only [List.map_cons, PyData.depthAll, PyData.depth]
    omega
theorem foldl_min_le : ∀ (ns : List Int) (m : Int), (ns.foldl min m = m ∨ ns.foldl min m ∈ ns) ∧ ns.foldl min m ≤ m ∧ ∀ x ∈ ns, ns.foldl min m ≤ x
  | [], m => ⟨.inl rfl, Int.le_refl _, fun _ h => absurd h (by simp)⟩
  | n :: ns, m => by
    obtain ⟨h1, h2, h3⟩ := foldl_min_le ns (min m n)
    have e : (n :: ns).foldl min m = ns.foldl min (min m n) := rfl
    rw [e]
    refine ⟨?_, by omega, fun x hx => ?_⟩
    · rcases h1 with h | h
      · by_cases q : m ≤ n
        · left
          rw [h]
          omega
        · right
          have : ns.foldl min (min m n) = n := by rw [h]; omega
          rw [this]
          simp
      · right
        exact List.mem_cons_of_mem _ h
    · rcases List.mem_cons.mp hx with z | z
      · subst z
        omega
      · exact h3 x z
/-- min(xs, default=d) of ints -/
def rMinDef (K : PySem.W.Frag) : List V → List V → Hp → VK → Prop := fun vs zs H Q => ∃ (a : Addr) (ns : List Int) (d : Int), vs = [V.ref a] ∧ zs = [V.int d] ∧ SqL K H a (ns.map V.int) ∧ ns ≠ [] ∧ ∀ m : Int, m ∈ ns → (∀ x ∈ ns, m ≤ x) → Q (.int m) H
theorem cr_minDef (hc : X.calm = true) (hu : X.A.units + 3 < cLine) : CallRK X (.builtin "min") [Str.ofString "default"] (rMinDef X.K) := by
  intro pins s σ H vs zs us ws Q I r rz h
  obtain ⟨a, ns, d, rfl, rfl, hs, hne, q⟩ := h
  obtain rfl := Vals.ref1 r
  obtain ⟨w1, rfl, e1⟩ := vals1 rz
  obtain ⟨td, rfl⟩ := e1
  obtain ⟨its, rv, hl, hz⟩ := I.list hs
  have hD : DpAll X.K H (ns.map V.int) (ns.map PyData.int) := by
    clear hs q hne rv hz
    induction ns with
    | nil => exact .nil
    | cons n ns ih => exact .cons (.int n) ih
  obtain ⟨as, hr⟩ := Dp.readsAll I _ _ _ hD rv
  have hdep := intsDepth ns
  show wpAny _ _ (call (.builtin "min") [.ref a] [(Str.ofString "default", .int d td)]) _ _ _
  refine PySem.W.min_list_default (I.ok.hd hc) hl.isList hr (intsData ns) (by omega) (fun e => absurd (List.map_eq_nil_iff.mp e) hne) fun y ys i v h' tk bs exs hv hrd hk => ?_
  cases ns with
  | nil => exact absurd rfl hne
  | cons n ns =>
    rw [List.map_cons] at exs
    obtain ⟨rfl, rfl⟩ := List.cons.inj exs
    rw [PySem.W.minD_ints] at hrd
    obtain ⟨t, rfl⟩ : ∃ t, v = .int (ns.foldl min n) t := by
      cases hrd
      exact ⟨_, rfl⟩
    obtain ⟨m1, m2, m3⟩ := foldl_min_le ns n
    refine ⟨.int (ns.foldl min n), H, I.kept (t' := tk) hk, ⟨t, rfl⟩, q _ ?_ fun x hx => ?_⟩
    · rcases m1 with z | z
      · rw [z]; simp
      · exact List.mem_cons_of_mem _ z
    · rcases List.mem_cons.mp hx with z | z
      · rw [z]; exact m2
      · exact m3 x z
end

/-! ### comprehensions over zip(list, list), and over enumerate -/
theorem lc_zipL {K : PySem.W.Frag} {a b : Addr} {xs ys : List V} {g : TG} {tt : TT} {te : TE} {vs : List Nat} {σ : L2.St} {H1 : Hp} {D : Addr} {Qd : Hp → Prop} (hl : xs.length = ys.length) (Pv : Nat → Hp → Prop) (h0 : Pv 0 (upd H1 D (.lst []))) (hq : ∀ i H, Pv i H → SqL K H a xs ∧ SqL K H b ys)
    (hs : ∀ i x y (T : Addr) H, xs[i]? = some x → ys[i]? = some y → Pv i H → H T = none → g (.ref T) (wipe σ vs) (upd H T (.tup [x, y])) fun σ2 H2 => wipe σ2 vs = wipe σ vs ∧ tt σ2 H2 fun b H3 =>
      if b = true then te σ2 H3 fun y H4 => ∃ acc, H4 D = some (.lst acc) ∧ acc.length < sizeLine ∧ Pv (i + 1) (upd H4 D (.lst (acc ++ [y]))) else Pv (i + 1) H3) (hd : ∀ H, Pv xs.length H → Qd H) :
    ∃ W : Nat → Nat → Hp → Prop, (∃ m, W 0 m (upd H1 D (.lst []))) ∧ ∀ i m H, W i m H →
      ((Itz K a b).stop i H ∧ Qd H) ∨ ((Itz K a b).go i H ∧ ∃ Nx : Hp → Prop, (∀ H', Nx H' → ∃ m', m' < m ∧ W (i + 1) m' H') ∧ ∀ x H', (Itz K a b).yld i H x H' → g x (wipe σ vs) H' fun σ2 H2 => wipe σ2 vs = wipe σ vs ∧ tt σ2 H2 fun b H3 =>
        if b = true then te σ2 H3 fun y H4 => ∃ acc, H4 D = some (.lst acc) ∧ acc.length < sizeLine ∧ Nx (upd H4 D (.lst (acc ++ [y]))) else Nx H3) := by
  refine ⟨fun i m H => m = xs.length - i ∧ i ≤ xs.length ∧ Pv i H, ⟨xs.length, by simp, Nat.zero_le _, h0⟩, ?_⟩
  rintro i m H ⟨rfl, hi, p⟩
  obtain ⟨qx, qy⟩ := hq i H p
  by_cases hlt : i < xs.length
  · have hx : xs[i]? = some xs[i] := List.getElem?_eq_getElem hlt
    have hlt2 : i < ys.length := by omega
    have hy : ys[i]? = some ys[i] := List.getElem?_eq_getElem hlt2
    refine .inr ⟨⟨xs, ys, _, _, qx, qy, hx, hy⟩, Pv (i + 1), fun H' p' => ⟨xs.length - (i + 1), by omega, rfl, hlt, p'⟩, fun v H' y => ?_⟩
    obtain ⟨T, x', y', rfl, hT, rfl, f1, f2⟩ := y
    exact hs i x' y' T H (f1 xs qx) (f2 ys qy) p hT
  · have e : i = xs.length := by omega
    subst e
    exact .inl ⟨⟨xs, ys, qx, qy, Or.inl (Nat.le_refl _)⟩, hd H p⟩
/-- a loop over enumerate(list) -/
theorem for_enum {K : PySem.W.Frag} {a : Addr} {xs : List V} {g : TG} {tb : TS} {D : Ends} {σ : L2.St} {H : Hp} (Pv : Nat → L2.St → Hp → Prop) (h0 : Pv 0 σ H) (hq : ∀ i σ H, Pv i σ H → SqL K H a xs)
    (hs : ∀ (i : Nat) (x : V) (T : Addr) (σ : L2.St) (H : Hp), xs[i]? = some x → Pv i σ H → H T = none → g (.ref T) σ (upd H T (.tup [.int (i : Nat), x])) fun σ2 H2 => tb { D with nx := Pv (i + 1), ct := Pv (i + 1), bk := D.nx } σ2 H2) (hd : ∀ σ H, Pv xs.length σ H → D.nx σ H) :
    ∃ W : Nat → Nat → L2.St → Hp → Prop, (∃ m, W 0 m σ H) ∧ ∀ i m σ H, W i m σ H →
      ((Ite K a).stop i H ∧ D.nx σ H) ∨ ((Ite K a).go i H ∧ ∃ N : L2.St → Hp → Prop, (∀ σ' H', N σ' H' → ∃ m', m' < m ∧ W (i + 1) m' σ' H') ∧ ∀ v H', (Ite K a).yld i H v H' → g v σ H' fun σ2 H2 => tb { D with nx := N, ct := N, bk := D.nx } σ2 H2) := by
  refine ⟨fun i m σ H => m = xs.length - i ∧ i ≤ xs.length ∧ Pv i σ H, ⟨xs.length, rfl, Nat.zero_le _, h0⟩, ?_⟩
  rintro i m σ H ⟨rfl, hi, p⟩
  have qx := hq i σ H p
  by_cases hlt : i < xs.length
  · have hx : xs[i]? = some xs[i] := List.getElem?_eq_getElem hlt
    refine .inr ⟨⟨xs, _, qx, hx⟩, Pv (i + 1), fun σ' H' p' => ⟨xs.length - (i + 1), by omega, rfl, hlt, p'⟩, fun v H' y => ?_⟩
    obtain ⟨T, x', rfl, hT, rfl, f1⟩ := y
    exact hs i x' T σ H (f1 xs qx) p hT
  · have e : i = xs.length := by omega
    subst e
    exact .inl ⟨⟨xs, qx, Nat.le_refl _⟩, hd σ H p⟩
theorem for_enumT {K : PySem.W.Frag} {a : Addr} {xs : List V} {g : TG} {tb : TS} {D : Ends} {σ : L2.St} {H : Hp} (Pv : Nat → L2.St → Hp → Prop) (h0 : Pv 0 σ H) (hq : ∀ i σ H, Pv i σ H → SqT K H a xs)
    (hs : ∀ (i : Nat) (x : V) (T : Addr) (σ : L2.St) (H : Hp), xs[i]? = some x → Pv i σ H → H T = none → g (.ref T) σ (upd H T (.tup [.int (i : Nat), x])) fun σ2 H2 => tb { D with nx := Pv (i + 1), ct := Pv (i + 1), bk := D.nx } σ2 H2) (hd : ∀ σ H, Pv xs.length σ H → D.nx σ H) :
    ∃ W : Nat → Nat → L2.St → Hp → Prop, (∃ m, W 0 m σ H) ∧ ∀ i m σ H, W i m σ H →
      ((IteT K a).stop i H ∧ D.nx σ H) ∨ ((IteT K a).go i H ∧ ∃ N : L2.St → Hp → Prop, (∀ σ' H', N σ' H' → ∃ m', m' < m ∧ W (i + 1) m' σ' H') ∧ ∀ v H', (IteT K a).yld i H v H' → g v σ H' fun σ2 H2 => tb { D with nx := N, ct := N, bk := D.nx } σ2 H2) := by
  refine ⟨fun i m σ H => m = xs.length - i ∧ i ≤ xs.length ∧ Pv i σ H, ⟨xs.length, rfl, Nat.zero_le _, h0⟩, ?_⟩
  rintro i m σ H ⟨rfl, hi, p⟩
  have qx := hq i σ H p
  by_cases hlt : i < xs.length
  · have hx : xs[i]? = some xs[i] := List.getElem?_eq_getElem hlt
    refine .inr ⟨⟨xs, _, qx, hx⟩, Pv (i + 1), fun σ' H' p' => ⟨xs.length - (i + 1), by omega, rfl, hlt, p'⟩, fun v H' y => ?_⟩
    obtain ⟨T, x', rfl, hT, rfl, f1⟩ := y
    exact hs i x' T σ H (f1 xs qx) p hT
  · have e : i = xs.length := by omega
    subst e
    exact .inl ⟨⟨xs, qx, Nat.le_refl _⟩, hd σ H p⟩

/-! ### one of two rules -/
section
variable {X : Cx} {tg e : Expr}
theorem PE.either {t t' : TE} (h : PE X e t) (h' : PE X e t') : PE X e (fun σ H Q => t σ H Q ∨ t' σ H Q) := ⟨fun pins s σ H Q I q => by
  rcases q with q | q
  · exact h.run pins s σ H Q I q
  · exact h'.run pins s σ H Q I q⟩
theorem PI.either {t t' : TI} (h : PI X tg e t) (h' : PI X tg e t') : PI X tg e (fun σ H Q => t σ H Q ∨ t' σ H Q) := ⟨fun pins s σ H Q I q => by
  rcases q with q | q
  · exact h.run pins s σ H Q I q
  · exact h'.run pins s σ H Q I q⟩
end
end PM
namespace PM
open PySem PySem.Spec PySem.Calls PyProof.Rows L2 GenW

/-! ### a lambda's making: its code object and its own table -/
section
variable {M : Model} {A : Around} {E : Value → Shared → Prop} {s : Shared} {name qual : Str} {params : Arguments} {body : Expr} {scope : Scope} {env : Env} {c P : Addr} {ps : Array Value} {pos : Pos} {firstLine : Nat} {mg : Str → Option Value}
  {clos : List (Str × Addr)} {Q : Value → Shared → Prop}
theorem lx_makeTail (hcl : closureFor scope env = pure clos) (hge0 : env.globals = mainGlobals) (hg : s.heap.Ns mainGlobals mg) (hcode : env.code = .ref c) (C : PySem.W.CodeHd s.heap c P) (hP : s.heap.get? P = some (PySem.W.tabObj ps)) (ht : TriplesOk ps.toList)
    (hnf : codeAmong pos ps.toList = none) (hgP : mainGlobals ≠ P) (hb : s.heap.BuiltinsAt mg P)
    (h : ∀ c' ctv h' tk, Heap.ExtBut P s.heap h' → s.heap.objs.size ≤ c' → c' < h'.objs.size → h'.CodeRec (.ref c') qual → h'.get? P = some (PySem.W.tabObj (ps ++ #[rawInt pos.line, rawInt pos.col, .ref c'])) →
      (∃ P', s.heap.objs.size ≤ P' ∧ h'.IsCode c' P' #[] ∧ h'.TableAt c' P' #[]) →
      Q (.ref h'.objs.size) { s with heap := h'.push (PySem.W.kla_obj name qual params body scope clos ((mg "__name__").getD .none) c' ctv), toks := tk }) :
    wpAny M A (makeTail name qual params (.expr body) scope env .none .none none pos firstLine) Q E s := by
  obtain ⟨bm, ob, hbm, hne0, _, hneP, hbo, hcls, hdict, hdata⟩ := hb
  unfold makeTail
  rw [hcl, hge0]
  refine wpAny_bind (wpAny_pure ?_)
  cases clos with
  | nil =>
    simp only [List.isEmpty_nil, if_true]
    refine wpAny_bind (wpAny_pure ?_)
    refine wpAny_bind (wpAny_functionCodeX hcode (C.code hP ht) (C.tab hP) hnf fun c' h' tk hx hge hlt _ hrec htb hnew => ?_)
    have hg' := hg.extBut hx hgP
    refine wpAny_bind (wpAny_builtinsFor hg' hbm hne0 (hx _ _ hneP hbo) hcls hdict hdata ?_)
    refine wpAny_bind (wpAny_nsGet hg' ?_)
    exact wpAny_bind (wpAny_pure (wpAny_newObj_type (h c' .none h' tk hx hge hlt hrec htb.2 hnew) (by size_fits)))
  | cons q r =>
    simp only [List.isEmpty_cons, Bool.false_eq_true, if_false]
    refine wpAny_bind (wpAny_newTextTuple ?_)
    refine wpAny_bind (wpAny_functionCodeX hcode ((C.keeps fun b o e => Heap.get?_push_of_some _ e).code (Heap.get?_push_of_some _ hP) ht) ((C.keeps fun b o e => Heap.get?_push_of_some _ e).tab (Heap.get?_push_of_some _ hP)) hnf fun c' h' tk hx hge hlt _ hrec htb hnew => ?_)
    have hg' := (hg.push _).extBut hx hgP
    have hx' : Heap.ExtBut P s.heap h' := fun b o hb' e => hx b o hb' (Heap.get?_push_of_some _ e)
    have hge' : s.heap.objs.size ≤ c' := Nat.le_trans (by rw [Heap.size_push]; omega) hge
    obtain ⟨P', g1, g2, g3⟩ := hnew
    have hge2 : s.heap.objs.size ≤ P' := Nat.le_trans (by rw [Heap.size_push]; omega) g1
    refine wpAny_bind (wpAny_builtinsFor hg' hbm hne0 (hx' _ _ hneP hbo) hcls hdict hdata ?_)
    refine wpAny_bind (wpAny_nsGet hg' ?_)
    exact wpAny_bind (wpAny_pure (wpAny_newObj_type (h c' _ h' tk hx' hge' hlt hrec htb.2 ⟨P', hge2, g2, g3⟩) (by size_fits)))
theorem lx_makeFunction (hcl : closureFor scope env = pure clos) (hge0 : env.globals = mainGlobals) (hg : s.heap.Ns mainGlobals mg) (hcode : env.code = .ref c) (C : PySem.W.CodeHd s.heap c P) (hP : s.heap.get? P = some (PySem.W.tabObj ps)) (ht : TriplesOk ps.toList)
    (hnf : codeAmong pos ps.toList = none) (hgP : mainGlobals ≠ P) (hb : s.heap.BuiltinsAt mg P)
    (h : ∀ c' ctv h' tk, Heap.ExtBut P s.heap h' → s.heap.objs.size ≤ c' → c' < h'.objs.size → h'.CodeRec (.ref c') qual → h'.get? P = some (PySem.W.tabObj (ps ++ #[rawInt pos.line, rawInt pos.col, .ref c'])) →
      (∃ P', s.heap.objs.size ≤ P' ∧ h'.IsCode c' P' #[] ∧ h'.TableAt c' P' #[]) →
      Q (.ref h'.objs.size) { s with heap := h'.push (PySem.W.kla_obj name qual params body scope clos ((mg "__name__").getD .none) c' ctv), toks := tk }) :
    wpAny M A (makeFunction name qual params (.expr body) scope env [] [] [] pos firstLine) Q E s := by
  rw [makeFunction_eq]
  simp only [List.zip_nil_right, List.filterMap_nil, List.isEmpty_nil, if_true, pure_bind]
  exact lx_makeTail hcl hge0 hg hcode C hP ht hnf hgP hb h
end
/-- what the making of a lambda asks of the maker's written code object at c and its table at P -/
abbrev TabB := LamX.TabB
section
variable {X : Cx} {pins : List (Addr × Obj)} {σ : L2.St} {H : Hp} {s : Shared}
theorem lam_makeX {T : List (Addr × Str)} {c P : Addr} {params : Arguments} {body : Expr} {scope : Scope} {pos : Pos} {E : Value → Shared → Prop} {Q : Value → Shared → Prop} (I : Inv X pins σ H s) (TB : LamX.TabB X.base X.mg c P) (hcode : X.env.code = .ref c)
    (hm : (P, X.env.qual ++ "<lambda>") ∈ T) (hu : ∀ p ∈ T, p.1 = P → p.2 = X.env.qual ++ "<lambda>") (hT : Tabs T H) (hdef : defaultsOf params X.env = ([], [])) (hfree : ∀ y ∈ scope.names, y.2 = .free → ∃ c, X.env.cells.lookup y.1 = some c)
    (h : ∀ (f c' P' : Addr) (pm ctv : Value) (H1 : Hp) (s' : Shared), Inv X pins σ H1 s' → GenCode T P H H1 →
      s'.heap.get? f = some (PySem.W.kla_obj "<lambda>" (X.env.qual ++ "<lambda>") params body scope (cloFrom X.env.cells scope.names []) pm c' ctv) → FpOk X pins H1 f → H1 c' = some (CodeX c' P' (X.env.qual ++ "<lambda>")) → P' ∉ T.map (·.1) → TabG H1 P' → Q (.ref f) s') :
    wpAny (model X.prog X.w) X.A (eval (.Lambda params body scope pos) X.env) Q E s := by
  obtain ⟨ps, hP, ht, ha⟩ := hT _ hm
  refine PySem.W.kla_eval hdef ?_
  have bP : s.heap.BuiltinsAt X.mg P := TB.bm.keeps I.bk
  have hP' : s.heap.get? P = some { cls := .none, data := .fields ps } := I.hok P _ hP
  cases hc : codeAmong pos ps.toList with
  | none =>
    refine lx_makeFunction (mg := X.mg) (c := c) (P := P) (ps := ps) (closure_ok hfree) I.ok.glob (I.mod.glob.keeps I.bk) hcode (TB.code.keeps I.bk) hP' ht hc TB.gP bP fun c' ctv h' tk hx hge hlt hrec htb hnew => ?_
    obtain ⟨P', hgP, hcP, htP⟩ := hnew
    obtain ⟨c2, oc, vs, t, e2, hoc, hd, hv⟩ := hrec
    cases e2
    have hcd' : PySem.W.CodeHd h' c' P' := PySem.W.CodeHd.of hcP htP
    have hn : c' ≠ P' := by
      obtain ⟨_, _, _, _, _, _, _, _, _, _, _, _, _, _, _, _, _, _, z⟩ := hcd'
      exact z
    have hsz : s.heap.objs.size ≤ h'.objs.size := Nat.le_trans hge (Nat.le_of_lt hlt)
    have nC : H c' = none := I.hok.fresh hge
    have nQ : H P' = none := I.hok.fresh hgP
    have eL : (ps ++ #[rawInt pos.line, rawInt pos.col, .ref c']).toList = ps.toList ++ [rawInt pos.line, rawInt pos.col, .ref c'] := by simp
    have J := inv_code (t' := tk) (q := X.env.qual ++ "<lambda>") (more := #[rawInt pos.line, rawInt pos.col, .ref c']) (h' := h'.push (PySem.W.kla_obj "<lambda>" (X.env.qual ++ "<lambda>") params body scope (cloFrom X.env.cells scope.names []) ((X.mg "__name__").getD .none) c' ctv)) I hP
      (fun b o hb e => Heap.get?_push_of_some _ (hx b o hb e)) (Heap.get?_push_of_some _ htb) hge hgP (hcd'.keeps fun b o e => Heap.get?_push_of_some _ e) ⟨oc, vs, t, Heap.get?_push_of_some _ hoc, hd, hv⟩ (Heap.get?_push_of_some _ htP.2)
    have hP2 : h'.objs.size ≠ P := Nat.ne_of_gt (Nat.lt_of_lt_of_le (Heap.lt_size hP') hsz)
    have n1 : h'.objs.size ≠ c' := Nat.ne_of_gt hlt
    have n2 : h'.objs.size ≠ P' := Nat.ne_of_gt (Heap.lt_size htP.2)
    have ht' : TriplesOk (ps ++ #[rawInt pos.line, rawInt pos.col, Value.ref c']).toList := by rw [eL]; exact PySem.TriplesOk_snoc _ _ _ _ ht
    have nf : updC H P c' P' (X.env.qual ++ "<lambda>") (ps ++ #[rawInt pos.line, rawInt pos.col, .ref c']) h'.objs.size = none := by
      unfold updC
      rw [upd_ne n1, upd_ne n2, upd_ne hP2]
      exact I.hok.fresh hsz
    refine h h'.objs.size c' P' ((X.mg "__name__").getD .none) ctv _ _ J ⟨updC_ext hP nC nQ, tabs_new hT hm hu hP ht nC nQ hn, fun b o hb e => ?_, fun R hR => updC_tab hP nC nQ hn ht' hR⟩ (Heap.get?_push_size _ rfl) (I.fpOk hsz nf) ?_ (fun z => ?_) ⟨#[], ?_, trivial⟩
    · unfold updC
      rw [upd_ne (ne_of_none e nC), upd_ne (ne_of_none e nQ), upd_ne hb]
      exact e
    · unfold updC
      rw [upd_same]
    · obtain ⟨p, hp', e⟩ := List.mem_map.mp z
      obtain ⟨ps', h1, _⟩ := hT p hp'
      rw [e, nQ] at h1
      cases h1
    · unfold updC
      rw [upd_ne (Ne.symm hn), upd_same]
  | some cv =>
    obtain ⟨c', P', e, hco, nP', tP'⟩ := ha pos cv hc
    subst e
    refine PySem.W.kla_makeFunctionHit (mg := X.mg) (c := c) (P := P) (ps := ps) (closure_ok hfree) I.ok.glob (I.mod.glob.keeps I.bk) hcode (TB.code.keeps I.bk) hP' ht hc bP fun ctv h' tk hx hsz => ?_
    have I1 : Inv X pins σ H { s with heap := h'.push (PySem.W.kla_obj "<lambda>" (X.env.qual ++ "<lambda>") params body scope (cloFrom X.env.cells scope.names []) ((X.mg "__name__").getD .none) c' ctv), toks := tk } := I.kept fun b o e => Heap.get?_push_of_some _ (hx b o e)
    exact h h'.objs.size c' P' ((X.mg "__name__").getD .none) ctv H _ I1 ⟨Ext.refl H, hT, fun _ _ _ e => e, fun _ hR => hR⟩ (Heap.get?_push_size _ rfl) (I.fpOk hsz (I.hok.fresh hsz)) hco nP' tP'
end

/-! ### the lambda's frame, with parameters -/
structure LamP (sc scope : Scope) (ps : List Str) : Prop where
  kind : scope.kind = .function
  co : scope.isCoroutine = false
  gen : scope.isGenerator = false
  own : ∀ y ∈ scope.names, y.2 ≠ .cell
  par : ∀ x ∈ ps, scope.names.lookup x = some .local
  loc : ∀ y ∈ scope.names, y.2 = .local → y.1 ∈ ps
  uniq : ∀ y ∈ scope.names, scope.names.lookup y.1 = some y.2
  free : ∀ y ∈ scope.names, y.2 = .free → sc.names.lookup y.1 = some .cell ∨ sc.names.lookup y.1 = some .free
def lamPB (sc scope : Scope) (ps : List Str) : Bool :=
  decide (scope.kind = .function) && !scope.isCoroutine && !scope.isGenerator && (scope.names.all fun y => !decide (y.2 = .cell) && (!decide (y.2 = .local) || decide (y.1 ∈ ps)) && decide (scope.names.lookup y.1 = some y.2) && (!decide (y.2 = .free) || decide (sc.names.lookup y.1 = some .cell) || decide (sc.names.lookup y.1 = some .free))) && (ps.all fun x => decide (scope.names.lookup x = some .local))
theorem lamP_by {sc scope : Scope} {ps : List Str} (h : lamPB sc scope ps = true) : LamP sc scope ps := by
  unfold lamPB at h
  simp only [Bool.and_eq_true, Bool.or_eq_true, Bool.not_eq_true', decide_eq_true_eq, decide_eq_false_iff_not, List.all_eq_true] at h
  obtain ⟨⟨⟨⟨h1, h2⟩, h3⟩, h4⟩, h5⟩ := h
  refine ⟨h1, h2, h3, fun y hy => (h4 y hy).1.1.1, h5, fun y hy e => ?_, fun y hy => (h4 y hy).1.2, fun y hy e => ?_⟩
  · rcases (h4 y hy).1.1.2 with z | z
    · exact absurd e z
    · exact z
  · rcases (h4 y hy).2 with (z | z) | z
    · exact absurd e z
    · exact .inl z
    · exact .inr z
theorem LamP.has {X : Cx} {scope : Scope} {ps : List Str} (L : LamP X.env.scope scope ps) (ok : X.Ok) : ∀ y ∈ scope.names, y.2 = .free → ∃ c, X.env.cells.lookup y.1 = some c := fun y hy e => by
  rcases L.free y hy e with k | k
  · exact ok.has _ (.inl k)
  · exact ok.has _ (.inr k)
open LamX (lamEnv lamCx)
section
variable {X : Cx} {pins : List (Addr × Obj)} {σ σ' : L2.St} {H HZ : Hp} {s s1 : Shared}
theorem lam_startP {A : Around} {outer : List Env} {E : XK} {scope : Scope} {ps : List Str} {f c' : Addr} {h₁ : Heap} {tk : Nat} {m : Str → Option Value} (I : Inv X pins σ H s) (L : LamP X.env.scope scope ps) (e0 : Env0 X.prog X.w X.K X.mg X.base A outer s1 HZ) (hd : A.handled = none)
    (un : Un (frs X.stack) [] H HZ s.heap s1.heap) (hns : h₁.Ns s1.heap.objs.size m) (kp : ∀ b o, s1.heap.get? b = some o → h₁.get? b = some o) (hlen : σ'.length = σ.length)
    (hσ : ∀ (i : Nat) (y : Str) (v : V), X.N[i]? = some y → σ'[i]? = some (some v) → Vis scope y → (scope.names.lookup y = some .local ∧ ∃ w, RelV v w ∧ m y = some w) ∨ (scope.names.lookup y = some .free ∧ σ[i]? = some (some v))) :
    Inv (lamCx X A outer s1 HZ E scope f c') [] σ' HZ { s1 with heap := h₁, toks := tk } := by
  have hfree := L.has I.ok
  have cm : ∀ {y c}, (cloFrom X.env.cells scope.names []).lookup y = some c → X.env.cells.lookup y = some c := fun {y c} e => by
    rcases cloFrom_mem (PySem.mem_of_lookup e) with hm | ⟨h1, h2⟩
    · cases hm
    · obtain ⟨c1, hc⟩ := hfree _ h1 rfl
      have hc : X.env.cells.lookup y = some c1 := hc
      have e2 : c = c1 := by
        rw [h2, hc] <;> rfl
      rw [e2]
      exact hc
  have look : ∀ {y}, scope.names.lookup y = some .free → ∃ c, (cloFrom X.env.cells scope.names []).lookup y = some c := fun {y} hl => by
    have hy : (y, NameKind.free) ∈ scope.names := PySem.mem_of_lookup hl
    exact mem_lookup (cloFrom_has (cells := X.env.cells) (acc := []) hy)
  have cellK : ∀ {c : Addr} {v : Option Value}, H c = none → s.heap.IsCell c v → h₁.IsCell c v := fun {c v} n ⟨o, ho, hd⟩ => by
    obtain ⟨sl, q⟩ := un.any ho n (by simp)
    exact ⟨_, kp _ _ q, hd⟩
  have noA : ∀ b : Addr, b ∉ (lamCx X A outer s1 HZ E scope f c').ex := fun b z => absurd (show b ∈ ([] : List Addr) from z) (by simp)
  refine ⟨⟨e0.mod, L.kind, rfl, rfl, Nat.le_refl _, fun y z c e1 e2 => I.ok.inj y z c (cm e1) (cm e2), fun y hy => ?_, fun y c z _ => ?_, fun _ => hd, Around.frames_deeper e0.frames, .inr ⟨rfl, rfl⟩, fun b z => absurd z (noA b), e0.bs, e0.bsz, fun b _ _ => noA b,
      fun b z => absurd z (noA b), e0.funs, e0.frf⟩,
    rfl, e0.bare, Un.kept kp, ⟨_, hns, fun i y v e1 e2 e3 => ?_⟩, fun y c e => ?_, e0.hok.fresh (Nat.le_refl _), fun y c e => ?_, fun q hq => absurd (show q ∈ ([] : List (Addr × Obj)) ++ [] from hq) (by simp), e0.hok.kept kp, hlen.trans I.len⟩
  · have hy : scope.names.lookup y = some .cell ∨ scope.names.lookup y = some .free := hy
    rcases hy with hy | hy
    · exact absurd rfl (L.own _ (PySem.mem_of_lookup hy))
    · exact look hy
  · have z : false = true := z
    cases z
  · rcases hσ i y v e1 e2 e3 with ⟨k, w, rw_, em⟩ | ⟨k, e2'⟩
    · exact ⟨w, rw_, .inl ⟨k, em⟩⟩
    · obtain ⟨m', hn, hl⟩ := I.loc
      have hvis : Vis X.env.scope y := (L.free _ (PySem.mem_of_lookup k) rfl).elim (fun k => .inr (.inl k)) (fun k => .inr (.inr k))
      obtain ⟨w', r, q⟩ := hl i y v e1 e2' hvis
      obtain ⟨c2, h2⟩ := look k
      refine ⟨w', r, .inr ⟨.inr k, c2, h2, ?_⟩⟩
      have c1 := cm h2
      rcases q with ⟨k', _⟩ | ⟨_, c3, e', z⟩
      · have k' : X.env.scope.names.lookup y = some .local := k'
        rcases L.free _ (PySem.mem_of_lookup k) rfl with k2 | k2 <;> rw [show X.env.scope.names.lookup y = _ from k2] at k' <;> cases k'
      · rw [c1] at e'
        cases e'
        exact cellK (I.freeC y _ c1) z
  · obtain ⟨w', z⟩ := I.cell y c (cm e)
    exact ⟨w', cellK (I.freeC y c (cm e)) z⟩
  · obtain ⟨v, o, ho, hd⟩ := I.cell y c (cm e)
    exact un.free c o ho (I.freeC y c (cm e)) (by simp)
/-- the lambda is called with one argument -/
theorem lam_call1 {A : Around} {scope : Scope} {x : Str} {i k : Nat} {f c' P' : Addr} {pm ctv : Value} {params : Arguments} {body : Expr} {tb : TE} {v : V} {u : Value} {Q : VK} {E : Value → Shared → Prop} (hN : X.N.Nodup) (I : Inv X pins σ H s) (L : LamP X.env.scope scope [x])
    (hfr : A.frames = X.A.frames) (hr : Room (k + 1) A) (hi : X.N[i]? = some x) (hσ : σ[i]? = some none)
    (hf : s.heap.get? f = some (PySem.W.kla_obj "<lambda>" (X.env.qual ++ "<lambda>") params body scope (cloFrom X.env.cells scope.names []) pm c' ctv)) (hc : H c' = some (CodeX c' P' (X.env.qual ++ "<lambda>")))
    (hbind : bindArgs (PySem.W.kla_fn "<lambda>" (X.env.qual ++ "<lambda>") params body scope (cloFrom X.env.cells scope.names []) pm (.ref c') ctv) ⟨[u], []⟩ = pure [(x, u)])
    (hbody : ∀ (s : Shared) (H : Hp), Room k (A.deeper (lamEnv X scope s.heap.objs.size f c')) → PE (lamCx X A X.stack s H C8.E0 scope f c').nox body tb)
    (rv : RelV v u) (ht : tb (σ.set i (some v)) H Q) :
    wpAny (model X.prog X.w) A (call (.ref f) [u]) (EP X pins σ Q) E s := by
  obtain ⟨⟨_, oc, vs, t, hoc, hdc, hvc⟩, _, _⟩ := I.hok c' _ hc
  have e0 : Env0 X.prog X.w X.K X.mg X.base A X.stack s H := by
    have e := I.env0
    exact ⟨hfr.trans e.frames, e.mod, e.bs, e.bsz, e.funs, e.frf, e.hok, e.bare⟩
  refine wpAny_call (codeAny_mono (R := CR C8.CX0 X.stack X.prog X.w H s Q C8.E0) ?_ fun r s' hq => ?_)
  · refine PySem.W.kla_callFunE hr.depth hf rfl L.co L.gen rfl ⟨c', oc, vs, t, rfl, hoc, hdc, hvc⟩ ?_
    rw [hbind]
    refine wpAny_pure (wpAny_newFunctionEnv (fun y hy => L.own y hy) (fun y hy => ?_) (fun h₁ hns hsb => ⟨I.nolimit.fresh _ hsb, ?_⟩) L.kind)
    · rw [List.mem_singleton.mp hy]
      exact L.par x (List.mem_singleton.mpr rfl)
    show codeAny _ _ (.expr body (lamEnv X scope s.heap.objs.size f c')) _ _
    have kp : ∀ b o, s.heap.get? b = some o → h₁.get? b = some o := fun b o e => hsb.extBut b o (Nat.ne_of_lt (Heap.lt_size e)) (Heap.get?_push_of_some _ e)
    have J : Inv (lamCx X A X.stack s H C8.E0 scope f c') [] (σ.set i (some v)) H { s with heap := h₁, toks := s.toks + ([(x, u)] : List (Str × Value)).length } := by
      refine lam_startP I L e0 hr.hd Un.refl hns kp (by rw [List.length_set]) fun j y z e1 e2 e3 => ?_
      by_cases hj : i = j
      · subst hj
        have ey : y = x := by
          rw [hi] at e1
          exact (Option.some.inj e1).symm
        subst ey
        have hl : i < σ.length := (List.getElem?_eq_some_iff.mp hσ).1
        rw [List.getElem?_set_self hl] at e2
        cases e2
        exact .inl ⟨L.par y (List.mem_singleton.mpr rfl), u, rv, by simp⟩
      · rw [List.getElem?_set_ne hj] at e2
        have e3 : Vis scope y := e3
        rcases e3 with k | k | k
        · have := L.loc _ (PySem.mem_of_lookup k) rfl
          have ey : y = x := List.mem_singleton.mp this
          subst ey
          exact absurd (nodup_ix hN hi e1) hj
        · exact absurd rfl (L.own _ (PySem.mem_of_lookup k))
        · exact .inr ⟨k, e2⟩
    refine PySem.W.kla_codeExpr (wpAny_mono ((hbody s H (hr.deeper _)).run [] _ _ H Q (J.wish _) ht) (fun v s' hq => ?_) fun e s' hq => (show False from hq).elim)
    obtain ⟨w', H', J', rv, q⟩ := hq
    exact ⟨w', H', J'.os, J'.bare, J'.base, J'.hok, rv, q⟩
  · cases r with
    | error e => exact (show False from hq).elim
    | ok fl =>
      cases fl with
      | ret u => exact I.after hq
      | next => exact False.elim hq
      | brk => exact False.elim hq
      | cont => exact False.elim hq
end
end PM
namespace PM
open PySem PySem.Spec PySem.Calls PyProof.Rows L2 GenW
open LamX (lamEnv lamCx)
/-! ### max(list, key=lambda x: (.., ..)) -/
theorem dataLt_pair (a b c d : Int) : PySem.W.dataLt (.tuple [.int a, .int b]) (.tuple [.int c, .int d]) = decide (a < c ∨ (a = c ∧ b < d)) := by
  rw [Bool.eq_iff_iff, decide_eq_true_iff]
  simp [PySem.W.dataLt, PySem.W.keyToks, PySem.W.keyToksAll, PyProof.Rows.lexLt, PyProof.Rows.itemLt]
  try omega
section
variable {X : Cx}
theorem Inv.turnedF {pins : List (Addr × Obj)} {σ : L2.St} {H : Hp} {s : Shared} {h' : Heap} {t' : Nat} {it : Addr} (I : Inv X pins σ H s) (f : FpOk X pins H it) (k : ∀ b o, b ≠ it → s.heap.get? b = some o → h'.get? b = some o) : Inv X pins σ H { s with heap := h', toks := t' } :=
  I.turned k f.1 f.2.1 f.2.2.2.1 f.2.2.2.2.1 f.2.2.2.2.2
/-- key i is less than key j -/
def keyLt (k1 k2 : Int → Int) (x y : Int) : Prop := k1 x < k1 y ∨ (k1 x = k1 y ∧ k2 x < k2 y)
structure MaxAt (X : Cx) (pins : List (Addr × Obj)) (σ : L2.St) (H1 : Hp) (T : List (Addr × Str)) (l : Addr) (ns : List Int) (k1 k2 : Int → Int) (c' : Addr) (co : HO) (I S : Addr) (i : Nat) (b : Option Nat) (H : Hp) (s : Shared) : Prop where
  inv : Inv X pins σ H s
  fI : FpOk X pins H I
  fS : FpOk X pins H S
  ne : S ≠ I
  it : s.heap.IsListIter I l i
  sq : SqL X.K H l (ns.map V.int)
  ext : Ext H1 H
  tabs : Tabs T H
  code : H c' = some co
  sS : match b with
    | none => i = 0 ∧ ∃ c, s.heap.get? S = some { cls := .type "list", dict := none, data := .seq #[] c, slots := #[] }
    | some j => ∃ z t W c, ns[j]? = some z ∧ s.heap.get? S = some { cls := .type "list", dict := none, data := .seq #[.int z t, .ref W] c, slots := #[] } ∧ H W = some (.tup [.int (k1 z), .int (k2 z)]) ∧ ∀ j' y, j' < i → ns[j']? = some y → ¬ keyLt k1 k2 z y
/-- what the key's call gives -/
def KeyCall (X : Cx) (pins : List (Addr × Obj)) (σ : L2.St) (H1 : Hp) (T : List (Addr × Str)) (ns : List Int) (k1 k2 : Int → Int) (f c' : Addr) (co : HO) : Prop :=
  ∀ (n : Int) (t : Tok) (pl : List (Addr × Obj)) (H : Hp) (s : Shared) (E : Value → Shared → Prop), n ∈ ns → Inv X (pins ++ pl) σ H s → Ext H1 H → Tabs T H → H c' = some co →
    wpAny (model X.prog X.w) X.A.in1 (call (.ref f) [.int n t]) (EP X (pins ++ pl) σ fun y H' => ∃ W, y = .ref W ∧ H' W = some (.tup [.int (k1 n), .int (k2 n)]) ∧ Ext H H' ∧ Tabs T H') E s
variable {pins : List (Addr × Obj)} {σ : L2.St} {H1 : Hp} {T : List (Addr × Str)} {l : Addr} {ns : List Int} {k1 k2 : Int → Int} {f c' : Addr} {co : HO} {I S : Addr}
theorem maxkey_step {i : Nat} {b : Option Nat} {H : Hp} {s : Shared} {R : Result → Shared → Prop} (hco : ∀ ps, co ≠ .tbl ps) (hc : X.calm = true) (hu : X.A.units + 8 < cLine) (K : KeyCall X pins σ H1 T ns k1 k2 f c' co) (M : MaxAt X pins σ H1 T l ns k1 k2 c' co I S i b H s) (hlt : i < ns.length)
    (next : ∀ (b' : Nat) (H' : Hp) (s' : Shared), MaxAt X pins σ H1 T l ns k1 k2 c' co I S (i + 1) (some b') H' s' → codeAny (model X.prog X.w) X.A (.builtin "max.loop" ⟨[.ref I, .ref f, .ref S], []⟩) R s') :
    codeAny (model X.prog X.w) X.A (.builtin "max.loop" ⟨[.ref I, .ref f, .ref S], []⟩) R s := by
  have hname : (toString "max" ++ toString ".loop" : String) = "max.loop" := by decide
  obtain ⟨inv, fI, fS, ne, it, sq, ext, tabs, code, sS⟩ := M
  obtain ⟨its, rv, p, hz⟩ := inv.list sq
  have hx : (ns.map V.int)[i]? = some (.int ns[i]) := by rw [List.getElem?_map, List.getElem?_eq_getElem hlt]; rfl
  obtain ⟨u, hu2, ru⟩ := rv.get hx
  obtain ⟨tu, rfl⟩ := ru
  obtain ⟨xs, cS, hS⟩ : ∃ xs cS, s.heap.get? S = some { cls := .type "list", dict := none, data := .seq xs cS, slots := #[] } := by
    cases b with
    | none =>
      obtain ⟨_, c, h⟩ := sS
      exact ⟨_, c, h⟩
    | some j =>
      obtain ⟨z, t, W, c, _, h, _⟩ := sS
      exact ⟨_, _, h⟩
  have hSl : ∀ h'' : Heap, h''.get? S = s.heap.get? S → True := fun _ _ => trivial
  -- the key's call and what follows it, from the state behind next
  have body : ∀ (h1 : Heap), h1.IsListIter I l (i + 1) → Heap.SameBut I s.heap h1 → wpAny (model X.prog X.w) X.A.in1 (call (.ref f) [.int ns[i] tu]) (fun kx s2 => ∃ H2 W, kx = .ref W ∧ Inv X pins σ H2 s2 ∧ FpOk X pins H2 I ∧ FpOk X pins H2 S ∧ s2.heap.IsListIter I l (i + 1) ∧ s2.heap.get? S = s.heap.get? S ∧ SqL X.K H2 l (ns.map V.int) ∧ Ext H1 H2 ∧ Tabs T H2 ∧ H2 c' = some co ∧ H2 W = some (.tup [.int (k1 ns[i]), .int (k2 ns[i])]) ∧ (∀ b xs, H b = some (.tup xs) → H2 b = some (.tup xs)))
      (fun _ _ => False) { s with heap := h1 } := fun h1 hit sb => by
    have I1 : Inv X pins σ H { s with heap := h1, toks := s.toks } := Inv.turnedF inv fI fun b o hb e => (sb.2 b hb).trans e
    have hS1 : h1.get? S = some { cls := .type "list", dict := none, data := .seq xs cS, slots := #[] } := (sb.2 S ne).trans hS
    have fp : ∀ b ∈ [I, S], FpOk X pins H b := fun b hb => by
      rcases List.mem_cons.mp hb with e | e
      · rw [e]; exact fI
      · rw [List.mem_singleton.mp e]; exact fS
    obtain ⟨oI, hoI, cI, dI⟩ := id hit
    have I2 := I1.pinned fp fun b hb => by
      rcases List.mem_cons.mp hb with e | e
      · rw [e]; exact ⟨oI, hoI, fun v z => by rw [dI] at z; cases z⟩
      · rw [List.mem_singleton.mp e]; exact ⟨_, hS1, fun v z => by cases z⟩
    refine wpAny_mono (K ns[i] tu _ H _ _ (List.getElem_mem hlt) I2 ext tabs code) (fun kx s2 ⟨y, H2, I3, r3, W, ey, hW, e3, t3⟩ => ?_) fun _ _ e => e
    subst ey
    cases r3
    have pI := I3.pin (I, oI) (List.mem_append_right _ (List.mem_append_right _ (mem_pinsAt (by simp) hoI)))
    have pS := I3.pin (S, _) (List.mem_append_right _ (List.mem_append_right _ (mem_pinsAt (by simp) hS1)))
    refine ⟨H2, W, rfl, I3.unpinned, ⟨pI.2.1, fI.2⟩, ⟨pS.2.1, fS.2⟩, ⟨oI, pI.1, cI, dI⟩, pS.1.trans hS.symm, e3.seqL sq, ext.trans e3, t3, e3 _ _ code hco, hW, fun b xs e => e3.tup e⟩
  -- S is written
  have wr : ∀ (s2 : Shared) (H2 : Hp) (W : Addr), Inv X pins σ H2 s2 → FpOk X pins H2 I → FpOk X pins H2 S → s2.heap.IsListIter I l (i + 1) → s2.heap.get? S = s.heap.get? S → SqL X.K H2 l (ns.map V.int) → Ext H1 H2 → Tabs T H2 → H2 c' = some co → H2 W = some (.tup [.int (k1 ns[i]), .int (k2 ns[i])]) →
      (∀ j' y, j' < i + 1 → ns[j']? = some y → ¬ keyLt k1 k2 ns[i] y) → MaxAt X pins σ H1 T l ns k1 k2 c' co I S (i + 1) (some i) H2 { s2 with heap := s2.heap.update S (Obj.mapSeq fun _ => #[.int ns[i] tu, .ref W]) } := fun s2 H2 W J gI gS it2 hS2 sq2 x2 t2 c2 hW hm => by
    have hS3 : s2.heap.get? S = some { cls := .type "list", dict := none, data := .seq xs cS, slots := #[] } := hS2.trans hS
    refine ⟨Inv.turnedF (t' := s2.toks) J gS fun b o hb e => (Heap.get?_update_other _ _ (Ne.symm hb)).trans e, gI, gS, ne, it2.at fun o e => (Heap.get?_update_other _ _ ne).trans e, sq2, x2, t2, c2, ns[i], tu, W, _, List.getElem?_eq_getElem hlt, Heap.get?_update_self _ hS3 rfl, hW, hm⟩
  refine codeAny_builtin PySem.F.entry_max_loop ?_
  rw [Around.under_plainId PySem.F.plain_max_loop _]
  show wpAny _ X.A.in1 (seqItems? (.ref S) >>= _) _ _ s
  cases b with
  | none =>
    obtain ⟨i0, c0, hS0⟩ := sS
    refine wpAny_bind (wpAny_seqItems hS0 rfl ?_)
    show wpAny _ X.A.in1 (tryCatch (pyNext (.ref I)) _ >>= _) _ _ s
    refine wpAny_bind (wpAny_tryCatch (wpAny_pyNext_list_item it p.isList (x := .int ns[i] tu) (by simpa using hu2) fun h1 hit sb => ?_))
    show wpAny _ X.A.in1 (tryCatch (holding [.int ns[i] tu] (call (.ref f) [.int ns[i] tu])) _ >>= _) _ _ _
    refine wpAny_bind (wpAny_tryCatch (wpAny_holding (wpAny_mono (body h1 hit sb) (fun kx s2 hq => ?_) fun _ _ e => e.elim)))
    obtain ⟨H2, W, rfl, J, gI, gS, it2, hS2, sq2, x2, t2, c2, hW, _⟩ := hq
    show wpAny _ X.A.in1 (updateSeq S (fun _ => #[.int ns[i] tu, .ref W]) >>= _) _ _ _
    refine wpAny_bind ?_
    refine wpAny_updateSeq (hS2.trans hS0) rfl ?_
    rw [hname]
    refine wpAny_pure ⟨plainId_quiet PySem.F.plain_max_loop _, next i _ _ (wr s2 H2 W J gI gS it2 hS2 sq2 x2 t2 c2 hW ?_)⟩
    intro j' y hj' hy hk
    have e : j' = i := by omega
    subst e
    rw [List.getElem?_eq_getElem hlt] at hy
    obtain rfl := Option.some.inj hy
    unfold keyLt at hk
    omega
  | some j =>
    obtain ⟨z, t, W0, c0, hj, hS0, hW0, hm⟩ := sS
    refine wpAny_bind (wpAny_seqItems hS0 rfl ?_)
    show wpAny _ X.A.in1 (tryCatch (pyNext (.ref I)) _ >>= _) _ _ s
    refine wpAny_bind (wpAny_tryCatch (wpAny_pyNext_list_item it p.isList (x := .int ns[i] tu) (by simpa using hu2) fun h1 hit sb => ?_))
    show wpAny _ X.A.in1 (tryCatch (holding [.int ns[i] tu] (call (.ref f) [.int ns[i] tu])) _ >>= _) _ _ _
    refine wpAny_bind (wpAny_tryCatch (wpAny_holding (wpAny_mono (body h1 hit sb) (fun kx s2 hq => ?_) fun _ _ e => e.elim)))
    obtain ⟨H2, W, rfl, J, gI, gS, it2, hS2, sq2, x2, t2, c2, hW, hT⟩ := hq
    have hW2 := hT _ _ hW0
    have d1 : Dp X.K H2 (.ref W) (.tuple [.int (k1 ns[i]), .int (k2 ns[i])]) := .tup (SqT.of hW) (.cons (.int _) (.cons (.int _) .nil))
    have d2 : Dp X.K H2 (.ref W0) (.tuple [.int (k1 z), .int (k2 z)]) := .tup (SqT.of hW2) (.cons (.int _) (.cons (.int _) .nil))
    obtain ⟨as1, r1⟩ := Dp.reads J _ _ (.ref W) d1 rfl
    obtain ⟨as2, r2⟩ := Dp.reads J _ _ (.ref W0) d2 rfl
    have cmp := PySem.W.rcGt_alike _ _ X.A.in1 s2 _ _ _ _ r1 r2 (by simp [PySem.W.alike, PySem.W.alikeAll]) (fun z => by cases z) (by
      have : X.A.in1.units = X.A.units + 1 := rfl
      simp only [PyData.depth, PyData.depthAll]
      omega)
    rw [dataLt_pair] at cmp
    show wpAny _ X.A.in1 (tryCatch (holding [.int ns[i] tu, .ref W] (richCompare .Gt (.ref W) (.ref W0) >>= _)) _ >>= _) _ _ _
    refine wpAny_bind (wpAny_tryCatch (wpAny_holding (wpAny_bind (cmp _ _ _ _ ?_))))
    refine wpAny_bind (wpAny_holding (wpAny_truthy_bool ?_))
    refine wpAny_bind (wpAny_letGo (wpAny_pure ?_))
    by_cases hb : k1 z < k1 ns[i] ∨ (k1 z = k1 ns[i] ∧ k2 z < k2 ns[i])
    · rw [decide_eq_true hb]
      simp only [if_true]
      refine wpAny_bind ?_
      refine wpAny_updateSeq (hS2.trans hS0) rfl (wpAny_bind (wpAny_letGo ?_))
      rw [hname]
      refine wpAny_pure ⟨plainId_quiet PySem.F.plain_max_loop _, next i _ _ (wr s2 H2 W J gI gS it2 hS2 sq2 x2 t2 c2 hW fun j' y hj' hy hk => ?_)⟩
      by_cases e : j' = i
      · subst e
        rw [List.getElem?_eq_getElem hlt] at hy
        obtain rfl := Option.some.inj hy
        unfold keyLt at hk
        omega
      · have := hm j' y (by omega) hy
        unfold keyLt at this hk
        omega
    · rw [decide_eq_false hb]
      simp only [Bool.false_eq_true, if_false]
      refine wpAny_bind (wpAny_letGo ?_)
      rw [hname]
      refine wpAny_pure ⟨plainId_quiet PySem.F.plain_max_loop _, next j _ _ ⟨J, gI, gS, ne, it2, sq2, x2, t2, c2, z, t, W0, c0, hj, hS2.trans hS0, hW2, fun j' y hj' hy => ?_⟩⟩
      by_cases e : j' = i
      · subst e
        rw [List.getElem?_eq_getElem hlt] at hy
        obtain rfl := Option.some.inj hy
        exact hb
      · exact hm j' y (by omega) hy
end
end PM
namespace PM
open PySem PySem.Spec PySem.Calls PyProof.Rows L2 GenW
open LamX (lamEnv lamCx)
section
variable {X : Cx} {pins : List (Addr × Obj)} {σ : L2.St} {H1 : Hp} {T : List (Addr × Str)} {l : Addr} {ns : List Int} {k1 k2 : Int → Int} {f c' : Addr} {co : HO} {I S : Addr}
theorem maxkey_loop {R : Result → Shared → Prop} (hco : ∀ ps, co ≠ .tbl ps) (hc : X.calm = true) (hu : X.A.units + 8 < cLine) (K : KeyCall X pins σ H1 T ns k1 k2 f c' co)
    (hR : ∀ (z : Int) (t : Tok) (H : Hp) (s : Shared), z ∈ ns → (∀ y ∈ ns, ¬ keyLt k1 k2 z y) → Inv X pins σ H s → Ext H1 H → Tabs T H → R (.ok (.ret (.int z t))) s) :
    ∀ (m i b : Nat) (H : Hp) (s : Shared), ns.length - i = m → i ≤ ns.length → MaxAt X pins σ H1 T l ns k1 k2 c' co I S i (some b) H s → codeAny (model X.prog X.w) X.A (.builtin "max.loop" ⟨[.ref I, .ref f, .ref S], []⟩) R s := by
  intro m
  induction m with
  | zero =>
    intro i b H s hm hle M
    have hi : i = ns.length := by omega
    obtain ⟨inv, fI, fS, ne, it, sq, ext, tabs, code, z, t, W0, c0, hj, hS0, hW0, hmx⟩ := M
    obtain ⟨its, rv, p, hz⟩ := inv.list sq
    have hlen := rv.length
    refine codeAny_builtin PySem.F.entry_max_loop ?_
    rw [Around.under_plainId PySem.F.plain_max_loop _]
    show wpAny _ X.A.in1 (seqItems? (.ref S) >>= _) _ _ s
    refine wpAny_bind (wpAny_seqItems hS0 rfl ?_)
    show wpAny _ X.A.in1 (tryCatch (pyNext (.ref I)) _ >>= _) _ _ s
    refine wpAny_bind (wpAny_tryCatch (wpAny_pyNext_list_end (A := X.A.in1) (inv.ok.hd hc) it p.isList (by simp at hlen ⊢; omega) fun h1 hx1 => ?_))
    have I1 : Inv X pins σ H { s with heap := h1, toks := s.toks } := Inv.turnedF inv fI fun b o hb e => hx1 b o hb e
    have hS1 := hx1 S _ ne hS0
    show wpAny _ X.A.in1 (updateSeq S (fun _ => #[]) >>= _) _ _ _
    refine wpAny_bind ?_
    refine wpAny_updateSeq hS1 rfl (wpAny_bind (wpAny_letGo (wpAny_pure ?_)))
    refine hR z t H _ (List.mem_of_getElem? hj) (fun y hy => ?_) (Inv.turnedF (t' := s.toks) I1 fS fun b o hb e => (Heap.get?_update_other _ _ (Ne.symm hb)).trans e) ext tabs
    obtain ⟨j', hj'⟩ := List.mem_iff_getElem?.mp hy
    exact hmx j' y (by have := (List.getElem?_eq_some_iff.mp hj').1; omega) hj'
  | succ m ih =>
    intro i b H s hm hle M
    exact maxkey_step hco hc hu K M (by omega) fun b' H' s' M' => ih (i + 1) b' H' s' (by omega) (by omega) M'
theorem call_maxkey {H : Hp} {s : Shared} {Q : Value → Shared → Prop} {E : Value → Shared → Prop} (hco : ∀ ps, co ≠ .tbl ps) (hc : X.calm = true) (hu : X.A.units + 8 < cLine) (inv : Inv X pins σ H s) (sq : SqL X.K H l (ns.map V.int)) (hne : ns ≠ []) (hT : Tabs T H) (hcode : H c' = some co)
    (K : KeyCall X pins σ H T ns k1 k2 f c' co)
    (hR : ∀ (z : Int) (t : Tok) (H' : Hp) (s : Shared), z ∈ ns → (∀ y ∈ ns, ¬ keyLt k1 k2 z y) → Inv X pins σ H' s → Ext H H' → Tabs T H' → Q (.int z t) s) :
    wpAny (model X.prog X.w) X.A (call (.builtin "max") [.ref l] [(Str.ofString "key", .ref f)]) Q E s := by
  have hname : (toString "max" ++ toString ".loop" : String) = "max.loop" := by decide
  obtain ⟨its, rv, p, hz⟩ := inv.list sq
  refine PyProof.Rows.kmk_tree PySem.F.kind_max PySem.F.plain_max PySem.F.entry_max (PyProof.Rows.kmk_max_key _ _) ?_
  show wpAny _ X.A.in1 (Builtin.Builtins.bindParams "max" ["key", "default"] 0 ⟨[], [(Str.ofString "key", .ref f)]⟩ >>= _) _ _ s
  refine wpAny_bind (wpAny_of_eq (show Builtin.Builtins.bindParams "max" ["key", "default"] 0 ⟨[], [(Str.ofString "key", .ref f)]⟩ = pure [some (.ref f), none] from rfl) ?_)
  refine wpAny_bind (wpAny_pure ?_)
  refine wpAny_bind (wpAny_pyIter_list p.isList ?_)
  refine wpAny_bind (wpAny_newObj_type ?_)
  rw [hname]
  obtain ⟨h1, eh1⟩ : ∃ h1, h1 = s.heap.push { cls := .type "list_iterator", data := .fields #[.ref l, .int 0 0] } := ⟨_, rfl⟩
  have hz1 : h1.objs.size = s.heap.objs.size + 1 := by rw [eh1, Heap.size_push]
  have fS := inv.fpOk (b := h1.objs.size) (by rw [hz1]; exact Nat.le_succ _) (inv.hok.fresh (by rw [hz1]; exact Nat.le_succ _))
  have fI := inv.fpOk (b := s.heap.objs.size) (Nat.le_refl _) (inv.hok.fresh (Nat.le_refl _))
  have hlpos : 0 < ns.length := by
    cases ns with
    | nil => exact absurd rfl hne
    | cons _ _ => exact Nat.succ_pos _
  have M : MaxAt X pins σ H T l ns k1 k2 c' co s.heap.objs.size h1.objs.size 0 none H { s with heap := h1.push { cls := .type "list", data := .seq ([] : List Value).toArray } } := by
    refine ⟨inv.kept (t' := s.toks) fun b o e => Heap.get?_push_of_some _ (by rw [eh1]; exact Heap.get?_push_of_some _ e), fI, fS, by rw [hz1]; exact Nat.succ_ne_self _, ⟨_, Heap.get?_push_of_some _ (by rw [eh1]; exact Heap.get?_push_size _ rfl), rfl, rfl⟩, sq, Ext.refl H, hT, hcode, rfl, 0, Heap.get?_push_size _ rfl⟩
  subst eh1
  refine wpAny_pure ⟨plainId_quiet PySem.F.plain_max_loop _, maxkey_step (R := fun r s' => ∃ v, r = .ok (.ret v) ∧ Q v s') hco hc hu K M hlpos (fun b' H' s' M' => maxkey_loop hco hc hu K (fun z t H2 s2 h1 h2 h3 h4 h5 => ⟨_, rfl, hR z t H2 s2 h1 h2 h3 h4 h5⟩) _ 1 b' H' s' rfl (by omega) M') |> fun h => codeAny_mono h fun r s' hq => ?_⟩
  obtain ⟨v, rfl, hq⟩ := hq
  exact hq
end
/-- max(e, key=lambda x: body) -/
def tMaxKey (T : List (Addr × Str)) (X : Cx) (te : TE) (i : Nat) (tb : TE) : TE := fun σ H Q => te σ H fun v H1 => Tabs T H1 ∧ ∃ (l : Addr) (ns : List Int) (k1 k2 : Int → Int), v = .ref l ∧ SqL X.K H1 l (ns.map V.int) ∧ ns ≠ [] ∧ σ[i]? = some none ∧
  (∀ H2 n, n ∈ ns → Ext H1 H2 → Tabs T H2 → tb (σ.set i (some (.int n))) H2 fun y H3 => ∃ W, y = .ref W ∧ H3 W = some (.tup [.int (k1 n), .int (k2 n)]) ∧ Ext H2 H3 ∧ Tabs T H3) ∧
  ∀ H2 z, z ∈ ns → (∀ y ∈ ns, ¬ keyLt k1 k2 z y) → Ext H1 H2 → Tabs T H2 → Q (.int z) H2
section
variable {X : Cx}
theorem pe_maxKey {T : List (Addr × Str)} {c P : Addr} {e : Expr} {params : Arguments} {body : Expr} {scope : Scope} {x : Str} {te tb : TE} {i k : Nat} {p pos lpos kpos : Pos} (hr : Room (k + 2) X.A) (hc : X.calm = true) (hN : X.N.Nodup) (hg : Gl X "max") (hm : X.mg "max" = none)
    (he : PE X e te) (TB : LamX.TabB X.base X.mg c P) (hcode : X.env.code = .ref c) (hmT : (P, X.env.qual ++ "<lambda>") ∈ T) (hu : ∀ p ∈ T, p.1 = P → p.2 = X.env.qual ++ "<lambda>") (L : LamP X.env.scope scope [x]) (hi : X.N[i]? = some x) (hdef : defaultsOf params X.env = ([], []))
    (hbind : ∀ (q : Str) (cl : List (Str × Addr)) (pm cv ctv u : Value), bindArgs (PySem.W.kla_fn "<lambda>" q params body scope cl pm cv ctv) ⟨[u], []⟩ = pure [(x, u)])
    (hbody : ∀ (s : Shared) (H : Hp) (f c' : Addr), Room k (X.A.in1.deeper (lamEnv X scope s.heap.objs.size f c')) → PE (lamCx X X.A.in1 X.stack s H C8.E0 scope f c').nox body tb)
    (hs : starEach [e] X.env = (false, eval e X.env) :: starEach [] X.env := by rfl)
    (hsp : backTo pos (starEach [e] X.env) = (false, eval e X.env) :: backTo pos (starEach [] X.env) := by rfl) (hpl : (backTo pos (starEach [e] X.env)).any (·.1) = false := by rfl) :
    PE X (.Call (.Name "max" p) [e] [⟨some "key", .Lambda params body scope lpos, kpos⟩] pos) (tMaxKey T X te i tb) := by
  refine ⟨fun pins s σ H Q I h => ?_⟩
  refine wpAny_Call_Name_kw (ld_blt I hg hm boot_max ?_)
  have ha : PA X [e] (tCons te tNil) := pa_cons he pa_nil hs
  refine PyProof.Rows.callWith_kw (thn (ha.run pos pins s σ H (fun vs H1 => ∃ v, vs = [v] ∧ (Tabs T H1 ∧ ∃ (l : Addr) (ns : List Int) (k1 k2 : Int → Int), v = .ref l ∧ SqL X.K H1 l (ns.map V.int) ∧ ns ≠ [] ∧ σ[i]? = some none ∧
      (∀ H2 n, n ∈ ns → Ext H1 H2 → Tabs T H2 → tb (σ.set i (some (.int n))) H2 fun y H3 => ∃ W, y = .ref W ∧ H3 W = some (.tup [.int (k1 n), .int (k2 n)]) ∧ Ext H2 H3 ∧ Tabs T H3) ∧
      ∀ H2 z, z ∈ ns → (∀ y ∈ ns, ¬ keyLt k1 k2 z y) → Ext H1 H2 → Tabs T H2 → Q (.int z) H2)) I ?_) fun us s1 ⟨vs, H1, I1, r1, v, ev, hT, l, ns, k1, k2, el, sq, hne, hσ, hb, hq⟩ => ?_) hsp hpl (by rfl) (by rfl)
  · show te σ H fun x H1 => _
    have h' : te σ H fun v H1 => _ := h
    refine (cast ?_ h')
    congr 1
    funext v H1
    refine propext ⟨fun z => ⟨v, rfl, z⟩, fun ⟨v', e', z⟩ => ?_⟩
    obtain rfl : v = v' := by injection e'
    exact z
  · subst ev
    subst el
    obtain rfl := Vals.ref1 r1
    show wpAny _ _ (evalAll ((do let v ← eval (.Lambda params body scope lpos) X.env; standAt pos; pure v) :: [])) _ _ s1
    refine wpAny_evalAll_cons (wpAny_bind (lam_makeX I1 TB hcode hmT hu hT hdef (L.has I1.ok) fun f c' P' pm ctv H2 s2 I2 gc hf ff hcc hnP hP' => wpAny_bind (wpAny_standAt (wpAny_pure ?_))))
    refine wpAny_evalAll_nil ?_
    show wpAny _ _ (call (.builtin "max") [.ref l] [(Str.ofString "key", .ref f)]) _ _ _
    have I3 := I2.pinned (fp := [f]) (fun b hb => by rw [List.mem_singleton.mp hb]; exact ff) (fun b hb => by rw [List.mem_singleton.mp hb]; exact ⟨_, hf, fun v z => by cases z⟩)
    refine call_maxkey (k1 := k1) (k2 := k2) (T := T) (c' := c') (co := CodeX c' P' (X.env.qual ++ "<lambda>")) codeX_ne hc ?_ I3 (gc.ext.seqL sq) hne gc.tabs hcc (fun n t pl H3 s3 E hn J x3 t3 c3 => ?_) fun z t H3 s3 hz hmx J x3 t3 => ?_
    · have := hr.units
      omega
    · have hf3 := (J.pin (f, _) (List.mem_append_right _ (List.mem_append_left _ (List.mem_append_right _ (mem_pinsAt (by simp) hf))))).1
      refine wpAny_mono (lam_call1 (A := X.A.in1) (k := k) (E := fun _ _ => False) (v := .int n) (tb := tb) hN J L rfl hr.in1 hi hσ hf3 c3 (hbind _ _ _ _ _ _) (fun s H => hbody s H f c') ⟨t, rfl⟩ (hb H3 n hn (gc.ext.trans x3) t3)) (fun _ _ q => q) fun _ _ e => e.elim
    · exact ⟨.int z, H3, J.unpinned, ⟨t, rfl⟩, hq H3 z hz hmx (gc.ext.trans x3) t3⟩
end
end PM
namespace PM
open PySem PySem.Spec PySem.Calls PyProof.Rows L2 GenW
open LamX (lamEnv lamCx)
section
variable {X : Cx} {pins : List (Addr × Obj)} {σ : L2.St} {H : Hp} {s : Shared}
/-- x(), in the def that got the lambda: Z is that def's context, entered at s -/
theorem pe_actX {CXg : CXT} {Eg : XK} {Ng : List Str} {qg : Str} {sg : Scope} {g f c' P' : Addr} {cdg pm ctv : Value} {params : Arguments} {body : Expr} {scope : Scope} {k i : Nat} {a : Str} {pn : List (Addr × Obj)} {xe : Value → Shared → Prop} {W : WX} {E : XK} {tb : TE} {p1 p2 : Pos}
    (I : Inv X pins σ H s) (L : LamP X.env.scope scope []) (hf : s.heap.get? f = some (PySem.W.kla_obj "<lambda>" (X.env.qual ++ "<lambda>") params body scope (cloFrom X.env.cells scope.names []) pm c' ctv)) (hfn : H f = none) (hfr : f ∉ frs X.stack)
    (hbind : bindArgs (PySem.W.kla_fn "<lambda>" (X.env.qual ++ "<lambda>") params body scope (cloFrom X.env.cells scope.names []) pm (.ref c') ctv) ⟨[], []⟩ = pure [])
    (tk : Takes ((cxOf CXg X.prog X.w X.K X.mg X.base Ng qg sg g cdg X.A X.stack s H Eg).tr pn xe) W) (hW : ∀ cls d σ' H', E cls d H' → W cls d σ' H') (hr : Room (k + 1) (X.A.deeper (envOfC qg sg s.heap.objs.size g cdg)))
    (hbody : ∀ (A : Around) (outer : List Env) (s : Shared) (H : Hp), Room k (A.deeper (lamEnv X scope s.heap.objs.size f c')) → PE (lamCx X A outer s H E scope f c') body tb)
    (hN : Ng[i]? = some a) (hv : Vis sg a) (hd : (a == ("__debug__" : Str)) = false := by decide) (hcd : (a == ("__classdict__" : Str)) = false := by decide) :
    PE ((cxOf CXg X.prog X.w X.K X.mg X.base Ng qg sg g cdg X.A X.stack s H Eg).tr pn xe) (.Call (.Name a p1) [] [] p2)
      (fun σZ HZ Q => σZ[i]? = some (some (.ref f)) ∧ HZ c' = some (CodeX c' P' (X.env.qual ++ "<lambda>")) ∧ tb σ HZ Q) := by
  refine ⟨fun pinsZ sZ σZ HZ Q IZ h => ?_⟩
  obtain ⟨hs, hc, ht⟩ := h
  refine wpAny_Call_Name_kw (thn ((pe_var (pos := p1) (i := i) hN hv hd hcd).run pinsZ sZ σZ HZ (fun v H1 => v = .ref f ∧ H1 = HZ) IZ ⟨.ref f, hs, rfl, rfl⟩) fun u s1 ⟨v, H1, I1, r1, q1⟩ => ?_)
  obtain ⟨ev, eH⟩ := q1
  subst ev
  rw [eH] at I1
  obtain rfl : u = Value.ref f := r1
  have of1 : s1.heap.get? f = some (PySem.W.kla_obj "<lambda>" (X.env.qual ++ "<lambda>") params body scope (cloFrom X.env.cells scope.names []) pm c' ctv) := I1.base.keep f _ hf hfn hfr (fun z => nomatch (show f ∈ ([] : List Addr) from z))
  refine PySem.W.callWith_F0 ⟨_, _, _, _, of1⟩ ?_
  have un : Un (frs X.stack) [] H HZ s.heap s1.heap := I1.base
  obtain ⟨⟨_, oc, vs, t, hoc, hdc, hvc⟩, _, _⟩ := I1.hok c' _ hc
  have rc : codeAny (model X.prog X.w) (X.A.deeper (envOfC qg sg s.heap.objs.size g cdg)) (.call (.ref f) ⟨[], []⟩) (CR (L2.CX X.prog X.w) (envOfC qg sg s.heap.objs.size g cdg :: X.stack) X.prog X.w HZ s1 Q E) s1 := by
    refine PySem.W.kla_callFunE hr.depth of1 rfl L.co L.gen rfl ⟨c', oc, vs, t, rfl, hoc, hdc, hvc⟩ ?_
    rw [hbind]
    refine wpAny_pure (wpAny_newFunctionEnv (fun y hy => L.own y hy) (fun y hy => absurd hy (by simp)) (fun h₁ hns hsb => ⟨I1.nolimit.fresh _ hsb, ?_⟩) L.kind)
    show codeAny _ _ (.expr body (lamEnv X scope s1.heap.objs.size f c')) _ _
    have kp : ∀ b o, s1.heap.get? b = some o → h₁.get? b = some o := fun b o e => hsb.extBut b o (Nat.ne_of_lt (Heap.lt_size e)) (Heap.get?_push_of_some _ e)
    have J : Inv (lamCx X (X.A.deeper (envOfC qg sg s.heap.objs.size g cdg)) (envOfC qg sg s.heap.objs.size g cdg :: X.stack) s1 HZ E scope f c') [] σ HZ { s1 with heap := h₁, toks := s1.toks + ([] : List (Str × Value)).length } :=
      lam_startP I L I1.env0 hr.hd un hns kp rfl fun j y z e1 e2 e3 => by
        have e3 : Vis scope y := e3
        rcases e3 with k | k | k
        · exact absurd (L.loc _ (PySem.mem_of_lookup k) rfl) (by simp)
        · exact absurd rfl (L.own _ (PySem.mem_of_lookup k))
        · exact .inr ⟨k, e2⟩
    refine PySem.W.kla_codeExpr (wpAny_mono ((hbody _ _ s1 HZ (hr.deeper _)).run [] _ _ HZ Q J ht) (fun v s' hq => ?_) fun e s' hq => hq)
    obtain ⟨w', H', J', rv, q⟩ := hq
    exact ⟨w', H', J'.os, J'.bare, J'.base, J'.hok, rv, q⟩
  have hx : Passes (L2.CX X.prog X.w) ((cxOf CXg X.prog X.w X.K X.mg X.base Ng qg sg g cdg X.A X.stack s H Eg).tr pn xe) E := passes_call tk hW
  refine wpAny_call (codeAny_mono rc fun r s' hq => ?_)
  cases r with
  | error e => exact hx pinsZ σZ HZ s1 e s' I1 hq
  | ok fl =>
    cases fl with
    | ret u => exact I1.after hq
    | next => exact False.elim hq
    | brk => exact False.elim hq
    | cont => exact False.elim hq
end
/-- the def that calls what it got: a calls it; TT: what it makes of the lambda's reading -/
def GivesX (X : Cx) (Ng : List Str) (x : Str) (sg : Scope) (g : Addr) (cdg : Value) (bg : List Stmt) (a : Str) (q : Str) (TT : (XK → Hp → VK → Prop) → Hp → VK → Prop) : Prop :=
  ∀ (f c' P' : Addr) (s : Shared) (H : Hp) (Q : VK) (tl : XK → Hp → VK → Prop),
    (∀ (W : WX) (pn : List (Addr × Obj)) (xe : Value → Shared → Prop) (E : XK) (p1 p2 : Pos), Takes ((cxOf C8.CX0 X.prog X.w X.K X.mg X.base Ng x sg g cdg X.A X.stack s H C8.E0).tr pn xe) W → (∀ cls d σ' H', E cls d H' → W cls d σ' H') →
      PE ((cxOf C8.CX0 X.prog X.w X.K X.mg X.base Ng x sg g cdg X.A X.stack s H C8.E0).tr pn xe) (.Call (.Name a p1) [] [] p2) (fun σZ HZ Q => σZ[0]? = some (some (.ref f)) ∧ HZ c' = some (CodeX c' P' q) ∧ tl E HZ Q)) →
    H c' = some (CodeX c' P' q) → TT tl H Q →
    ∃ t, PSs (cxOf C8.CX0 X.prog X.w X.K X.mg X.base Ng x sg g cdg X.A X.stack s H C8.E0).nox bg t ∧ t { nx := fun _ H' => Q .non H', rt := Q } (L2.start Ng [.ref f]) H
def tLamX (T : List (Addr × Str)) (TT : (XK → Hp → VK → Prop) → Hp → VK → Prop) (t : XK → TE) : TE := fun σ H Q => Tabs T H ∧ ∀ H1, Ext H H1 → Tabs T H1 → TT (fun E H' Q' => t E σ H' Q') H1 Q
section
variable {X : Cx}
/-- x(lambda: body) -/
theorem pe_lamcallX {T : List (Addr × Str)} {TT : (XK → Hp → VK → Prop) → Hp → VK → Prop} {x a : Str} {g c P : Addr} {k : Nat} {pg : Arguments} {bg : List Stmt} {sg : Scope} {dV kV doc pm cdv ct oc : Value} {an od : Option Addr} {osl : Array (Option Value)} {Ng : List Str}
    {params : Arguments} {body : Expr} {scope : Scope} {t : XK → TE} {p lpos pos : Pos} (hg : Gl X x) (hm : X.mg x = some (.ref g)) (hk : PySem.W.keepIn X.K (.ref g) = true)
    (lk : X.K.lookup g = some ⟨oc, od, .func (PySem.W.fnOf x x pg bg sg dV kV doc pm an cdv ct), osl⟩) (hcg : PySem.W.codeIn X.K cdv x = true) (hb : L2.Binds X.K (PySem.W.fnOf x x pg bg sg dV kV doc pm an cdv ct) [a] []) (Sg : FnScope Ng [a] sg) (hNg : Ng[0]? = some a) (hva : Vis sg a)
    (hG : GivesX X Ng x sg g cdv bg a (X.env.qual ++ "<lambda>") TT)
    (TB : LamX.TabB X.base X.mg c P) (hcode : X.env.code = .ref c) (hmT : (P, X.env.qual ++ "<lambda>") ∈ T) (hu : ∀ p ∈ T, p.1 = P → p.2 = X.env.qual ++ "<lambda>") (hr : Room (k + 2) X.A) (L : LamP X.env.scope scope []) (hdef : defaultsOf params X.env = ([], []))
    (hbind : ∀ (q : Str) (cl : List (Str × Addr)) (pm cv ctv : Value), bindArgs (PySem.W.kla_fn "<lambda>" q params body scope cl pm cv ctv) ⟨[], []⟩ = pure [])
    (hbody : ∀ (A : Around) (outer : List Env) (s : Shared) (H : Hp) (E : XK) (f c' : Addr), Room k (A.deeper (lamEnv X scope s.heap.objs.size f c')) → PE (lamCx X A outer s H E scope f c') body (t E))
    (hdb : (x == ("__debug__" : Str)) = false := by decide) (hd : (a == ("__debug__" : Str)) = false := by decide) (hcd : (a == ("__classdict__" : Str)) = false := by decide) :
    PE X (.Call (.Name x p) [.Lambda params body scope lpos] [] pos) (tLamX T TT t) := by
  refine ⟨fun pins s σ H Q I h => ?_⟩
  obtain ⟨hT, h⟩ := h
  refine wpAny_Call_Name_kw (ld_glob I hg hm ?_ hdb)
  refine PySem.W.callWith_K (h₀ := X.base) I.ok.mod.kin hk ?_ (by rfl) (by rfl)
  show wpAny _ _ (spliced ((false, eval (.Lambda params body scope lpos) X.env) :: backTo pos (starEach [] X.env))) _ _ s
  refine Calls.spliced_cons (lam_makeX I TB hcode hmT hu hT hdef (L.has I.ok) fun f c' P' pm' ctv H1 s' I1 gc hf ff hco hnP hP' => ?_)
  refine Calls.spliced_nil ⟨I1.kIn, ?_⟩
  have hfr : f ∉ frs X.stack := fun z => by
    rcases List.mem_cons.mp (I1.stkSub _ z) with e | e
    · exact ff.2.1 e
    · exact ff.2.2.1 e
  have rc : codeAny (model X.prog X.w) X.A (.call (.ref g) ⟨[.ref f], []⟩) (CR C8.CX0 X.stack X.prog X.w H1 s' Q C8.E0) s' := by
    refine LamX.run_ofS (N := Ng) (ps := [a]) (us := [.ref f]) (vs := [.ref f]) lk hcg Sg hr I1.env0 (hb s' [.ref f] I1.kIn rfl) (.cons rfl .nil) rfl fun hr' => ?_
    obtain ⟨t', ht', hq'⟩ := hG f c' P' s' H1 Q (fun E H' Q' => t E σ H' Q') (fun W pn xe E p1 p2 tk hW => pe_actX (i := 0) I1 L hf ff.1 hfr (hbind _ _ _ _ _) tk hW hr' (fun A outer s H hr2 => hbody A outer s H E f c' hr2) hNg hva hd hcd) hco (h H1 gc.ext gc.tabs)
    exact ⟨t', ht'.nox, hq'⟩
  refine wpAny_call (codeAny_mono rc fun r s2 hq => ?_)
  cases r with
  | error e => exact (show False from hq).elim
  | ok fl =>
    cases fl with
    | ret u => exact I1.after hq
    | next => exact False.elim hq
    | brk => exact False.elim hq
    | cont => exact False.elim hq
/-- which text the clauses give -/
def wTold (K : PySem.W.Frag) (Q : VK) : List (Value × Str) → XK
  | [] => fun _ _ _ => False
  | (c, ret) :: r => fun cls d H => ∃ b, PySem.W.exmOne K cls c = some b ∧ (b = true → Q (.str ret) H) ∧ (b = false → wTold K Q r cls d H)
def TToldN (K : PySem.W.Frag) (l : List (Value × Str)) : (XK → Hp → VK → Prop) → Hp → VK → Prop := fun tl H Q => tl (wTold K Q l) H Q
abbrev hdTs (r : Str) : Addr → Value → Option Addr → TS := fun _ _ _ => tRet (tC (.str r))
theorem wMany_of {K : PySem.W.Frag} {D : Ends} : ∀ (l : List (Value × Str)) (cls : Value) (d : Option Addr) (σ : L2.St) (H : Hp), wTold K D.rt l cls d H → wMany K (fun _ _ _ _ => False) D (l.map fun p => (p.1, hdTs p.2)) cls d σ H
  | [], _, _, _, _, h => (show False from h).elim
  | (c, ret) :: r, cls, d, σ, H, ⟨b, e1, e2, e3⟩ => ⟨b, e1, fun hb a _ => e2 hb, fun hb => wMany_of r cls d σ H (e3 hb)⟩
/-- try: return a() / except .. -/
theorem told_givesN {Ng : List Str} {x a q : Str} {sg : Scope} {g : Addr} {cdg : Value} {h₀ : ExceptHandler} {hds : List ExceptHandler} {l : List (Value × Str)} {p1 p2 p3 p8 : Pos}
    (hh : ∀ (s : Shared) (H : Hp), HdsOk (cxOf C8.CX0 X.prog X.w X.K X.mg X.base Ng x sg g cdg X.A X.stack s H C8.E0).nox (h₀ :: hds) (l.map fun p => (p.1, hdTs p.2))) (h0 : ∀ f : Addr, (L2.start Ng [V.ref f])[0]? = some (some (V.ref f))) :
    GivesX X Ng x sg g cdg [.Try [.Return (some (.Call (.Name a p1) [] [] p2)) p3] (h₀ :: hds) [] [] p8] a q (TToldN X.K l) := by
  intro f c' P' s H Q tl act hc h
  refine ⟨_, pss_one (ps_try_many (X := (cxOf C8.CX0 X.prog X.w X.K X.mg X.base Ng x sg g cdg X.A X.stack s H C8.E0).nox)
      (tb := fun W D σ H => ∃ Ech : XK, (∀ cls d σ' H', Ech cls d H' → W cls d σ' H') ∧ σ[0]? = some (some (.ref f)) ∧ H c' = some (CodeX c' P' q) ∧ tl Ech H D.rt)
      rfl rfl LamX.takes0 (fun W pn xe tk _ => ?_) (hh s H)), ?_⟩
  · refine ⟨fun pins s' σ H' D I h' => ?_⟩
    obtain ⟨Ech, hW, h1, h2, h3⟩ := h'
    have hp := act W pn xe Ech p1 p2 tk hW
    have hq := pss_one (ps_ret (pos := p3) hp)
    exact hq.run pins s' σ H' D I ⟨h1, h2, h3⟩
  · exact ⟨wTold X.K Q l, fun cls d σ' H' hw => wMany_of l cls d σ' H' hw, h0 f, hc, h⟩
end
end PM
namespace PM
open PySem PySem.Spec PyProof.Rows L2 GenW
/-! ### the text -/
def topS (i : Nat) : Stmt := PySem.Challenge.pw_pairmart_k21_things_given_whole.main.body.getD i (.Pass ⟨0, 0, 0, 0⟩)
/-! ### data -/
/-- a tuple of whole numbers -/
def TupI (K : PySem.W.Frag) (H : Hp) (v : V) (ns : List Int) : Prop := ∃ p, v = .ref p ∧ SqT K H p (ns.map V.int)
theorem TupI.ext {K : PySem.W.Frag} {H H' : Hp} {v : V} {ns : List Int} (h : TupI K H v ns) (e : Ext H H') : TupI K H' v ns := by
  obtain ⟨p, rfl, h⟩ := h
  exact ⟨p, rfl, e.seqT h⟩
/-- tuples of whole numbers, one by one -/
def TupsI (K : PySem.W.Frag) (H : Hp) (vs : List V) (R : List (List Int)) : Prop := vs.length = R.length ∧ ∀ (i : Nat) (v : V) (r : List Int), vs[i]? = some v → R[i]? = some r → TupI K H v r
theorem TupsI.ext {K : PySem.W.Frag} {H H' : Hp} {vs : List V} {R : List (List Int)} (h : TupsI K H vs R) (e : Ext H H') : TupsI K H' vs R := ⟨h.1, fun i v r a b => (h.2 i v r a b).ext e⟩
theorem TupsI.nil {K : PySem.W.Frag} {H : Hp} : TupsI K H [] [] := ⟨rfl, fun i v r a => by simp at a⟩
theorem TupsI.snoc {K : PySem.W.Frag} {H : Hp} {vs : List V} {R : List (List Int)} {v : V} {r : List Int} (h : TupsI K H vs R) (t : TupI K H v r) : TupsI K H (vs ++ [v]) (R ++ [r]) := by
  refine ⟨by simp [h.1], fun i v' r' a b => ?_⟩
  by_cases hi : i < vs.length
  · rw [List.getElem?_append_left hi] at a
    rw [List.getElem?_append_left (by rw [← h.1]; exact hi)] at b
    exact h.2 i v' r' a b
  · have hl : i < (vs ++ [v]).length := (List.getElem?_eq_some_iff.mp a).1
    have e : i = vs.length := by simp at hl; omega
    rw [e, List.getElem?_concat_length] at a
    rw [e, h.1, List.getElem?_concat_length] at b
    obtain rfl := Option.some.inj a
    obtain rfl := Option.some.inj b
    exact t
theorem TupsI.get {K : PySem.W.Frag} {H : Hp} {vs : List V} {R : List (List Int)} (h : TupsI K H vs R) {i : Nat} (hi : i < R.length) : ∃ v, vs[i]? = some v ∧ TupI K H v R[i] := by
  have hv : i < vs.length := by rw [h.1]; exact hi
  exact ⟨vs[i], List.getElem?_eq_getElem hv, h.2 i _ _ (List.getElem?_eq_getElem hv) (List.getElem?_eq_getElem hi)⟩
theorem TupsI.set {K : PySem.W.Frag} {H : Hp} {vs : List V} {R : List (List Int)} {v : V} {r : List Int} (h : TupsI K H vs R) (t : TupI K H v r) (j : Nat) : TupsI K H (vs.set j v) (R.set j r) := by
  refine ⟨by simp [h.1], fun i v' r' a b => ?_⟩
  by_cases hj : j = i
  · subst hj
    have hl : j < vs.length := by
      have := (List.getElem?_eq_some_iff.mp a).1
      simpa using this
    rw [List.getElem?_set_self hl] at a
    rw [List.getElem?_set_self (by rw [← h.1]; exact hl)] at b
    obtain rfl := Option.some.inj a
    obtain rfl := Option.some.inj b
    exact t
  · rw [List.getElem?_set_ne hj] at a b
    exact h.2 i v' r' a b
/-- a list of tuples of whole numbers -/
def LofT (K : PySem.W.Frag) (H : Hp) (a : Addr) (R : List (List Int)) : Prop := ∃ vs, SqL K H a vs ∧ TupsI K H vs R
/-- a tuple of them -/
def TofT (K : PySem.W.Frag) (H : Hp) (a : Addr) (R : List (List Int)) : Prop := ∃ vs, SqT K H a vs ∧ TupsI K H vs R
/-- one or the other -/
def SofT (K : PySem.W.Frag) (H : Hp) (a : Addr) (R : List (List Int)) : Prop := LofT K H a R ∨ TofT K H a R
theorem LofT.ext {K : PySem.W.Frag} {H H' : Hp} {a : Addr} {R : List (List Int)} (h : LofT K H a R) (e : Ext H H') : LofT K H' a R := by
  obtain ⟨vs, h1, h2⟩ := h
  exact ⟨vs, e.seqL h1, h2.ext e⟩
theorem TofT.ext {K : PySem.W.Frag} {H H' : Hp} {a : Addr} {R : List (List Int)} (h : TofT K H a R) (e : Ext H H') : TofT K H' a R := by
  obtain ⟨vs, h1, h2⟩ := h
  exact ⟨vs, e.seqT h1, h2.ext e⟩
theorem SofT.ext {K : PySem.W.Frag} {H H' : Hp} {a : Addr} {R : List (List Int)} (h : SofT K H a R) (e : Ext H H') : SofT K H' a R := by
  rcases h with h | h
  · exact .inl (h.ext e)
  · exact .inr (h.ext e)
/-- the item at t -/
def at0 (row : List Int) (t : Int) : Int := row.getD t.toNat 0
theorem atI_at0 {row : List Int} {t : Int} (h0 : 0 ≤ t) (h1 : t < row.length) : atI (row.map V.int) t = some (.int (at0 row t)) := by
  obtain ⟨j, rfl⟩ : ∃ j : Nat, t = j := ⟨t.toNat, by omega⟩
  refine atI_nat ?_
  have hj : j < row.length := by omega
  rw [List.getElem?_map, List.getElem?_eq_getElem hj]
  unfold at0
  simp [hj]
/-- what a lot is worth -/
def W (row lot : List Int) : Int := (lot.map (at0 row)).sum
/-- each thing of the lot is one of m -/
def LotOk (m : Nat) (lot : List Int) : Prop := ∀ t ∈ lot, 0 ≤ t ∧ t < m

/-! ### defs with generator expressions or lambdas: their own tables -/
/-- the name that a def's own generator expressions, or lambdas, bear -/
abbrev inName (q s : Str) : Str := (q ++ Str.ofString ".<locals>.") ++ s
structure Gn (base : Heap) (mg : Str → Option Value) (T : List (Addr × Str)) (c P : Addr) (q : Str) : Prop where
  tb : LamX.TabB base mg c P
  mem : (P, q) ∈ T
  uniq : ∀ p ∈ T, p.1 = P → p.2 = q
theorem tGenC_of {X : Cx} {T : List (Addr × Str)} {c P : Addr} {q : Str} {K : Value → Hp → Prop} {H : Hp} (G : Gn X.base X.mg T c P q) (hcode : X.env.code = .ref c) (hT : Tabs T H)
    (k : ∀ cv H1 c' P', Ext H H1 → Tabs T H1 → cv = .ref c' → H1 c' = some (CodeX c' P' q) → P' ∉ T.map (·.1) → TabG H1 P' → K cv H1) : tGenC T X q K H := by
  obtain ⟨ps, h1, h2, _⟩ := hT _ G.mem
  refine ⟨c, P, hcode, .inl G.tb.code, ⟨ps, h1, h2⟩, hT, .inl ⟨G.mem, G.uniq⟩, fun cv H1 gc hcv => ?_⟩
  obtain ⟨c', P', e, e1, e2, e3⟩ := hcv G.mem
  exact k cv H1 c' P' gc.ext gc.tabs e e1 e2 e3
section
variable {P : Program} {w : World} {K : PySem.W.Frag} {mg : Str → Option Value} {base : Heap}
/-- as Fun.ok, the def's code object at hand -/
theorem okC {x qual : Str} {st : Stmt} {f : Addr} {fd : FuncData} {N ps : List Str} {k : Nat} {sp : Sp} (F : Fun K x qual st f fd) (S : FnScope N ps (defScope st)) (len : ∀ vs H Q E, sp vs H Q E → vs.length = ps.length)
    (hbody : ∀ (cdv : Value), fd.code = cdv → ∀ (A : Around) (outer : List Env) (s : Shared) (H : Hp) (vs : List V) (Q : VK) (E : XK), Room k (A.deeper (envOfC qual (defScope st) s.heap.objs.size f cdv)) → sp vs H Q E →
      ∃ t, PSs (cxOf CX0 P w K mg base N qual (defScope st) f cdv A outer s H E).nox (defBody st) t ∧ t { nx := fun _ H' => Q .non H', rt := Q } (start N vs) H) : FnOk P w K mg base CX0 (k + 1) f fd ps sp := by
  obtain ⟨oc, od, kV, doc, pm, an, cdv, ct, osl, rfl, lk, hcd⟩ := F.ex
  refine fn_of lk hcd S len fun A outer s H vs Q E hr hsp => ?_
  obtain ⟨t, h, q⟩ := hbody cdv rfl A outer s H vs Q E hr hsp
  exact ⟨t, h.nox, q⟩
theorem okCX {x qual : Str} {st : Stmt} {f : Addr} {fd : FuncData} {N ps : List Str} {k : Nat} {sp : Sp} (F : Fun K x qual st f fd) (S : FnScope N ps (defScope st)) (len : ∀ vs H Q E, sp vs H Q E → vs.length = ps.length)
    (hbody : ∀ (cdv : Value), fd.code = cdv → ∀ (A : Around) (outer : List Env) (s : Shared) (H : Hp) (vs : List V) (Q : VK) (E : XK), Room k (A.deeper (envOfC qual (defScope st) s.heap.objs.size f cdv)) → sp vs H Q E →
      ∃ t, PSs (cxOf (L2.CX P w) P w K mg base N qual (defScope st) f cdv A outer s H E) (defBody st) t ∧ t { nx := fun _ H' => Q .non H', rt := Q } (start N vs) H) : FnOk P w K mg base (L2.CX P w) (k + 1) f fd ps sp := by
  obtain ⟨oc, od, kV, doc, pm, an, cdv, ct, osl, rfl, lk, hcd⟩ := F.ex
  exact fn_of lk hcd S len fun A outer s H vs Q E hr hsp => hbody cdv rfl A outer s H vs Q E hr hsp
end
theorem genOk_by {X : Cx} {scope : Scope} {own : List (Str × Nat)} {N : List Str} {sc : Scope} (hN : X.N = N) (hsc : X.env.scope = sc) (h : blkC N sc scope own = true) (h2 : (!scope.isCoroutine && scope.names.all fun y => !decide (y.2 = .cell)) = true) (h3 : scope.names.lookup (".0" : Str) = some NameKind.local) : GenOk X scope own := by
  simp only [Bool.and_eq_true, Bool.not_eq_true', List.all_eq_true, decide_eq_false_iff_not] at h2
  refine ⟨?_, h2.1, h2.2, h3⟩
  rw [hN, hsc]
  exact blkOk_by h
end PM
namespace PM
open PySem PySem.Spec PyProof.Rows L2 GenW
abbrev sWorth : Stmt := topS 13
theorem scWorth : FnScope ["row", "things", "thing"] ["row", "things"] (defScope sWorth) := ⟨rfl, rfl, rfl, by decide +kernel, rfl, by decide +kernel, by decide +kernel⟩
section
variable {P : Program} {w : World} {K : PySem.W.Frag} {mg : Str → Option Value} {base : Heap} {T : List (Addr × Str)}
def spWorth (K : PySem.W.Frag) (T : List (Addr × Str)) : Sp := fun vs H Q _ => ∃ (v1 v2 : V) (row lot : List Int), vs = [v1, v2] ∧ TupI K H v1 row ∧ TupI K H v2 lot ∧ LotOk row.length lot ∧ Tabs T H ∧ ∀ H', Ext H H' → Tabs T H' → Q (.int (W row lot)) H'
theorem ok_worth {f c Pt : Addr} {fd : FuncData} {k : Nat} (F : Fun K "worth" "worth" sWorth f fd) (G : Gn base mg T c Pt (inName "worth" "<genexpr>")) (hc : fd.code = .ref c) (ms : mg "sum" = none) : FnOk P w K mg base CX0 (k + 4) f fd ["row", "things"] (spWorth K T) := by
  refine okC F scWorth (fun vs H Q E h => ?_) (fun cdv hcd A outer s H vs Q E hr h => ?_)
  · obtain ⟨v1, v2, row, lot, rfl, _⟩ := h
    rfl
  · obtain ⟨v1, v2, row, lot, rfl, ⟨pr, rfl, hR⟩, ⟨pl, rfl, hL⟩, hok, hT, q⟩ := h
    refine ⟨_, pss_one (ps_ret (pe_sumG (T := T) (own := [("thing", 2)]) (g := gName 2) (te := fun _ => tOp (rIxT K) (tVar 0) (tVar 2)) (k := k) hr rfl scWorth.nd rfl ms G.tb.bm (pi_tup (pv 1)) (genOk_by (N := ["row", "things", "thing"]) (sc := defScope sWorth) rfl rfl (by decide +kernel) (by decide +kernel) (by decide +kernel))
      (fun _ _ _ _ _ _ => pg_name (i := 2) scWorth.nd rfl (Or.inl rfl)) (fun _ _ _ _ _ _ _ => pe_ix ix_tup (pv 0) (pv 2) (fun _ _ => rfl)) (fun _ => rfl))), ?_⟩
    refine ⟨.ref pl, rfl, pl, rfl, ⟨_, hL⟩, ?_⟩
    refine tGenC_of G (hcd.symm.trans hc) hT fun cv H1 c' P' e1 t1 _ _ _ _ => ?_
    refine ⟨fun i m acc H2 => i ≤ lot.length ∧ m = lot.length - i ∧ acc = ((lot.take i).map (at0 row)).sum ∧ H2 = H1, ⟨lot.length, Nat.zero_le _, rfl, rfl, rfl⟩, fun i m acc H2 ⟨hi, hm, ha, hH⟩ => ?_⟩
    subst hH
    by_cases hlt : i < lot.length
    · have g : (lot.map V.int)[i]? = some (.int lot[i]) := by rw [List.getElem?_map, List.getElem?_eq_getElem hlt]; rfl
      refine .inr ⟨⟨_, _, e1.seqT hL, g⟩, fun x H' ⟨eH, fx⟩ => ?_⟩
      subst eH
      have ex : x = .int lot[i] := Option.some.inj ((fx _ (e1.seqT hL)).symm.trans g)
      subst ex
      obtain ⟨b0, b1⟩ := hok lot[i] (List.getElem_mem hlt)
      refine ⟨rfl, .ref pr, rfl, .int lot[i], rfl, pr, _, lot[i], _, rfl, rfl, e1.seqT hR, atI_at0 b0 b1, _, rfl, m - 1, by omega, hlt, by omega, ?_, rfl⟩
      rw [ha, List.map_take, List.map_take, sum_take (l := lot.map (at0 row)) (i := i) (z := at0 row lot[i]) (by rw [List.getElem?_map, List.getElem?_eq_getElem hlt]; rfl)]
    · refine .inl ⟨⟨_, e1.seqT hL, by simp; omega⟩, ?_⟩
      have : lot.take i = lot := List.take_of_length_le (by omega)
      rw [this] at ha
      subst ha
      exact q _ e1 t1
abbrev sEnvies : Stmt := topS 14
theorem scEnvies : FnScope ["rows", "lots", "one", "other"] ["rows", "lots", "one", "other"] (defScope sEnvies) := ⟨rfl, rfl, rfl, by decide +kernel, rfl, by decide +kernel, by decide +kernel⟩
/-- one would rather have other's lot -/
def envy (R L : List (List Int)) (i j : Nat) : Bool := decide (W (R.getD i []) (L.getD i []) < W (R.getD i []) (L.getD j []))
/-- rows and lots that fit -/
structure Fits (R L : List (List Int)) (m : Nat) : Prop where
  rows : ∀ r ∈ R, r.length = m
  lots : ∀ l ∈ L, LotOk m l
  len : L.length = R.length
theorem Fits.lot {R L : List (List Int)} {m : Nat} (h : Fits R L m) {i j : Nat} (hi : i < R.length) (hj : j < L.length) : LotOk (R[i]).length (L[j]) := by
  rw [h.rows _ (List.getElem_mem hi)]
  exact h.lots _ (List.getElem_mem hj)
def spEnvies (K : PySem.W.Frag) (T : List (Addr × Str)) : Sp := fun vs H Q _ => ∃ (a b : Addr) (R L : List (List Int)) (m i j : Nat), vs = [.ref a, .ref b, .int (i : Nat), .int (j : Nat)] ∧ LofT K H a R ∧ LofT K H b L ∧ Fits R L m ∧ i < R.length ∧ j < R.length ∧ Tabs T H ∧
  ∀ H', Ext H H' → Tabs T H' → Q (.bl (envy R L i j)) H'
theorem getD_at {R : List (List Int)} {i : Nat} (h : i < R.length) : R.getD i [] = R[i] := by simp [h]
theorem ok_envies {f fW : Addr} {fd fdW : FuncData} {k : Nat} (F : Fun K "envies" "envies" sEnvies f fd) (FW : Fun K "worth" "worth" sWorth fW fdW) (bW : Binds K fdW ["row", "things"] []) (gW : mg "worth" = some (.ref fW))
    (GW : FnOk P w K mg base CX0 (k + 4) fW fdW ["row", "things"] (spWorth K T)) : FnOk P w K mg base CX0 (k + 5) f fd ["rows", "lots", "one", "other"] (spEnvies K T) := by
  refine okC F scEnvies (fun vs H Q E h => ?_) (fun cdv hcd A outer s H vs Q E hr h => ?_)
  · obtain ⟨a, b, R, L, m, i, j, rfl, _⟩ := h
    rfl
  · obtain ⟨a, b, R, L, m, i, j, rfl, ⟨vr, hR, tR⟩, ⟨vl, hL, tL⟩, fit, hi, hj, hT, q⟩ := h
    refine ⟨_, pss_one (ps_ret (pe_cmpR op_lt (pe_call GW hr (by rfl) gW FW.kp bW .nil pass0 (pa_cons (pe_ix ix_list (pv 0) (pv 2) (fun _ _ => rfl)) (pa_cons (pe_ix ix_list (pv 1) (pv 2) (fun _ _ => rfl)) pa_nil)))
      (pe_call GW hr (by rfl) gW FW.kp bW .nil pass0 (pa_cons (pe_ix ix_list (pv 0) (pv 2) (fun _ _ => rfl)) (pa_cons (pe_ix ix_list (pv 1) (pv 3) (fun _ _ => rfl)) pa_nil))) (nomark _))), ?_⟩
    obtain ⟨r, er, tr⟩ := tR.get hi
    have hi' : i < L.length := by rw [fit.len]; exact hi
    have hj' : j < L.length := by rw [fit.len]; exact hj
    obtain ⟨l1, el1, tl1⟩ := tL.get hi'
    obtain ⟨l2, el2, tl2⟩ := tL.get hj'
    refine ⟨.ref a, rfl, .int i, rfl, a, vr, i, r, rfl, rfl, hR, atI_nat er, .ref b, rfl, .int i, rfl, b, vl, i, l1, rfl, rfl, hL, atI_nat el1, ?_⟩
    refine ⟨r, l1, _, _, rfl, tr, tl1, fit.lot hi hi', hT, fun H1 e1 t1 => ?_⟩
    refine ⟨.ref a, rfl, .int i, rfl, a, vr, i, r, rfl, rfl, e1.seqL hR, atI_nat er, .ref b, rfl, .int j, rfl, b, vl, j, l2, rfl, rfl, e1.seqL hL, atI_nat el2, ?_⟩
    refine ⟨r, l2, _, _, rfl, tr.ext e1, tl2.ext e1, fit.lot hi hj', t1, fun H2 e2 t2 => ?_⟩
    refine ⟨_, _, rfl, rfl, ?_⟩
    have e : envy R L i j = decide (W R[i] L[i] < W R[i] L[j]) := by
      unfold envy
      rw [getD_at hi, getD_at hi', getD_at hj']
    have q2 := q H2 (e1.trans e2) t2
    rw [e] at q2
    exact q2
end
end PM
namespace PM
open PySem PySem.Spec PyProof.Rows L2 GenW
/-- len of a list or tuple, of any context -/
def rLen (K : PySem.W.Frag) : List V → Hp → VK → Prop := fun xs H Q => ∃ p ys, xs = [.ref p] ∧ (SqL K H p ys ∨ SqT K H p ys) ∧ Q (.int ys.length) H
theorem cr_len {X : Cx} {K : PySem.W.Frag} (h : X.K = K) : CallR X (.builtin "len") (rLen K) := by
  subst h
  exact call_len_seq
abbrev sCalm : Stmt := topS 15
theorem scCalm : FnScope ["rows", "lots", "one", "other"] ["rows", "lots"] (defScope sCalm) := ⟨rfl, rfl, rfl, by decide +kernel, rfl, by decide +kernel, by decide +kernel⟩
def pairsN (n : Nat) : List (Nat × Nat) := (List.range n).flatMap fun i => (List.range n).map fun j => (i, j)
theorem rem2_all {n : Nat} (h : 0 < n) : rem2 n 0 0 = pairsN n := by
  unfold rem2 pairsN
  have e : List.range n = 0 :: (List.range n).drop 1 := by
    have := drop_range h
    simpa using this
  conv => rhs; rw [e]
  simp only [List.drop_zero, List.flatMap_cons]
  conv => lhs; rw [e]
  simp [← e]
/-- nobody envies anybody -/
def calm (R L : List (List Int)) : Bool := !(pairsN R.length).any fun p => envy R L p.1 p.2
section
variable {P : Program} {w : World} {K : PySem.W.Frag} {mg : Str → Option Value} {base : Heap} {T : List (Addr × Str)}
def spCalm (K : PySem.W.Frag) (T : List (Addr × Str)) : Sp := fun vs H Q _ => ∃ (a b : Addr) (R L : List (List Int)) (m : Nat), vs = [.ref a, .ref b] ∧ LofT K H a R ∧ LofT K H b L ∧ Fits R L m ∧ R.length ≤ 1000 ∧ Tabs T H ∧
  ∀ H', Ext H H' → Tabs T H' → Q (.bl (calm R L)) H'
theorem ok_calm {f c Pt fE : Addr} {fd fdE : FuncData} {k : Nat} (F : Fun K "is_calm" "is_calm" sCalm f fd) (G : Gn base mg T c Pt (inName "is_calm" "<genexpr>")) (hc : fd.code = .ref c) (ma : mg "any" = none) (mr : mg "range" = none) (ml : mg "len" = none)
    (FE : Fun K "envies" "envies" sEnvies fE fdE) (bE : Binds K fdE ["rows", "lots", "one", "other"] []) (gE : mg "envies" = some (.ref fE)) (GE : FnOk P w K mg base CX0 (k + 5) fE fdE ["rows", "lots", "one", "other"] (spEnvies K T)) :
    FnOk P w K mg base CX0 (k + 9) f fd ["rows", "lots"] (spCalm K T) := by
  refine okC F scCalm (fun vs H Q E h => ?_) (fun cdv hcd A outer s H vs Q E hr h => ?_)
  · obtain ⟨a, b, R, L, m, rfl, _⟩ := h
    rfl
  · obtain ⟨a, b, R, L, m, rfl, hRR, hLL, fit, hsz, hT, q⟩ := h
    obtain ⟨vr, hR, tR⟩ := id hRR
    refine ⟨_, pss_one (ps_ret (pe_not (pe_any2 (T := T) (wi := iRng1 (tCons (tCB (rLen K) (tCons (tVar 0) tNil)) tNil)) (own := [("one", 2), ("other", 3)]) (a1 := 2) (a2 := 3) (k := k + 5) hr rfl scCalm.nd rfl ma G.tb.bm
      (pi_range1 (by rfl) mr (pa_cons (pe_callB call_len_seq (by rfl) ml PySem.boot_len (pa_cons (pv 0) pa_nil)) pa_nil))
      (genOk_by (N := ["rows", "lots", "one", "other"]) (sc := defScope sCalm) rfl rfl (by decide +kernel) (by decide +kernel) (by decide +kernel)) (by decide)
      (fun _ _ _ _ _ _ => pg_name (i := 2) scCalm.nd rfl (Or.inl rfl)) (fun _ _ _ _ _ _ => pg_name (i := 3) scCalm.nd rfl (Or.inl rfl))
      (fun _ _ _ _ _ _ _ => pi_range1 (by rfl) mr (pa_cons (pe_callB (cr_len rfl) (by rfl) ml PySem.boot_len (pa_cons (pv 0) pa_nil)) pa_nil))
      (fun _ _ _ _ _ _ hr' => pe_call GE hr' (by rfl) gE FE.kp bE .nil pass0 (pa_cons (pv 0) (pa_cons (pv 1) (pa_cons (pv 2) (pa_cons (pv 3) pa_nil)))))
      (fun _ => rfl) (fun _ _ _ => rfl)))), ?_⟩
    refine ⟨.ref a, rfl, a, vr, rfl, .inl hR, ?_⟩
    have hn : ((vr.length : Nat) : Int) = (R.length : Int) := by rw [tR.1]
    refine ⟨vr.length, rfl, by omega, by omega, ?_⟩
    refine tGenC_of G (hcd.symm.trans hc) hT fun cv H1 c' P' e1 t1 _ _ _ _ => ?_
    have en : ((vr.length : Nat) : Int).toNat = R.length := by omega
    refine ⟨R.length, by rw [en], fun r H2 => Ext H H2 ∧ Tabs T H2 ∧ (∀ p ∈ r, p.1 < R.length ∧ p.2 < R.length) ∧ (pairsN R.length).any (fun p => envy R L p.1 p.2) = r.any (fun p => envy R L p.1 p.2), ⟨fun H2 ⟨x2, t2, _, e2⟩ => ?_, fun i j r H2 ⟨x2, t2, _, e2⟩ => ?_, fun i j r H2 ⟨x2, t2, hp, e2⟩ => ?_⟩, ?_, rfl, rfl⟩
    · refine ⟨_, rfl, ?_⟩
      have := q H2 x2 t2
      unfold calm at this
      rw [e2] at this
      simpa using this
    · refine ⟨.ref a, rfl, a, vr, rfl, .inl (x2.seqL hR), ⟨vr.length, rfl, by omega, by omega, ?_, rfl⟩⟩
      rw [en]
    · obtain ⟨hi, hj⟩ := hp (i, j) List.mem_cons_self
      refine ⟨.ref a, rfl, .ref b, rfl, .int i, rfl, .int j, rfl, a, b, R, L, m, i, j, rfl, hRR.ext x2, hLL.ext x2, fit, hi, hj, t2, fun H3 e3 t3 => ⟨_, rfl, ?_⟩⟩
      cases he : envy R L i j with
      | true =>
        rw [if_pos rfl]
        refine ⟨_, rfl, ?_⟩
        have := q H3 (x2.trans e3) t3
        unfold calm at this
        rw [e2] at this
        simpa [he] using this
      | false =>
        rw [if_neg (by decide)]
        refine ⟨x2.trans e3, t3, fun p hp' => hp p (List.mem_cons_of_mem _ hp'), ?_⟩
        rw [e2]
        simp [he]
    · by_cases h0 : 0 < R.length
      · rw [if_pos h0, rem2_all h0]
        refine ⟨e1, t1, fun p hp => ?_, rfl⟩
        unfold pairsN at hp
        obtain ⟨i, hi, hp⟩ := List.mem_flatMap.mp hp
        obtain ⟨j, hj, rfl⟩ := List.mem_map.mp hp
        exact ⟨List.mem_range.mp hi, List.mem_range.mp hj⟩
      · rw [if_neg h0]
        have : R.length = 0 := by omega
        rw [this]
        exact ⟨e1, t1, fun p hp => absurd hp (by simp), rfl⟩
end
end PM
namespace PM
open PySem PySem.Spec PyProof.Rows L2 GenW
abbrev sBut : Stmt := topS 16
theorem scBut : FnScope ["rows", "lots", "one", "row", "lot", "thing"] ["rows", "lots"] (defScope sBut) := ⟨rfl, rfl, rfl, by decide +kernel, rfl, by decide +kernel, by decide +kernel⟩
/-! ### the greatest of some -/
def mxO (l : List Int) : Option Int := l.foldl (fun acc n => some (match acc with | none => n | some b => if b < n then n else b)) none
def mx (l : List Int) : Int := (mxO l).getD 0
theorem mxO_snoc (l : List Int) (n : Int) : mxO (l ++ [n]) = some (match mxO l with | none => n | some b => if b < n then n else b) := by
  unfold mxO
  rw [List.foldl_append]
  rfl
theorem mxO_spec : ∀ (n : Nat) (l : List Int), l.length = n → (l = [] ∧ mxO l = none) ∨ ∃ b, mxO l = some b ∧ b ∈ l ∧ ∀ x ∈ l, x ≤ b := by
  intro n
  induction n with
  | zero =>
    intro l h
    have e : l = [] := List.eq_nil_of_length_eq_zero h
    subst e
    exact .inl ⟨rfl, rfl⟩
  | succ n ih =>
    intro l h
    have hne : l ≠ [] := fun e => by subst e; cases h
    obtain ⟨l0, z, rfl⟩ : ∃ l0 z, l = l0 ++ [z] := ⟨l.dropLast, l.getLast hne, (List.dropLast_concat_getLast hne).symm⟩
    have ih' := ih l0 (by simp at h; omega)
    rw [mxO_snoc]
    right
    rcases ih' with ⟨e1, e2⟩ | ⟨b, e1, e2, e3⟩
    · rw [e2, e1]
      exact ⟨z, rfl, by simp, fun x hx => by simp at hx; omega⟩
    · rw [e1]
      by_cases hb : b < z
      · refine ⟨z, by simp [hb], by simp, fun x hx => ?_⟩
        rcases List.mem_append.mp hx with hx | hx
        · have := e3 x hx
          omega
        · have : x = z := by simpa using hx
          omega
      · refine ⟨b, by simp [hb], by simp [e2], fun x hx => ?_⟩
        rcases List.mem_append.mp hx with hx | hx
        · exact e3 x hx
        · have : x = z := by simpa using hx
          omega
theorem mx_mem {l : List Int} (h : l ≠ []) : mx l ∈ l ∧ ∀ x ∈ l, x ≤ mx l := by
  rcases mxO_spec _ l rfl with ⟨e, _⟩ | ⟨b, e1, e2, e3⟩
  · exact absurd e h
  · unfold mx
    rw [e1]
    exact ⟨e2, e3⟩
theorem mxO_some {l : List Int} (h : l ≠ []) : mxO l = some (mx l) := by
  rcases mxO_spec _ l rfl with ⟨e, _⟩ | ⟨b, e1, e2, e3⟩
  · exact absurd e h
  · unfold mx
    rw [e1]
    rfl
/-- without some one thing of it nobody would rather have it -/
def butAt (row mine lot : List Int) : Bool := !(decide (lot ≠ []) && decide (W row mine < W row lot - mx (lot.map (at0 row))))
def butOne (R L : List (List Int)) : Bool := (List.range R.length).all fun i => L.all fun lot => butAt (R.getD i []) (L.getD i []) lot
theorem eqv_nil (ns : List Int) : PyData.eqv (.tuple (ns.map PyData.int)) (.tuple []) = decide (ns = []) := by
  cases ns with
  | nil => simp [PyData.eqv, PyData.eqvAll]
  | cons a r => simp [PyData.eqv, PyData.eqvAll]
theorem dpInts {K : PySem.W.Frag} {H : Hp} : ∀ ns : List Int, DpAll K H (ns.map V.int) (ns.map PyData.int)
  | [] => .nil
  | n :: ns => .cons (.int n) (dpInts ns)
theorem TupI.dp {K : PySem.W.Frag} {H : Hp} {v : V} {ns : List Int} (h : TupI K H v ns) : Dp K H v (.tuple (ns.map PyData.int)) := by
  obtain ⟨p, rfl, h⟩ := h
  exact .tup h (dpInts ns)
theorem shapedInts (ns : List Int) : SeqAt.shaped (.tuple (ns.map PyData.int)) = true := by
  have h1 : ∀ ns : List Int, PyData.canLayAll0 (ns.map PyData.int) = true := fun ns => by
    induction ns with
    | nil => simp [PyData.canLayAll0]
    | cons a r ih => simp [PyData.canLayAll0, PyData.canLay0, ih]
  have h2 := intsDepth ns
  show ((PyData.canLay0 (.tuple (ns.map PyData.int))) && decide (PyData.depth (.tuple (ns.map PyData.int)) ≤ 64)) = true
  rw [Bool.and_eq_true]
  refine ⟨by simp only [PyData.canLay0]; exact h1 ns, decide_eq_true ?_⟩
  simp only [PyData.depth]
  omega
section
variable {P : Program} {w : World} {K : PySem.W.Frag} {mg : Str → Option Value} {base : Heap} {T : List (Addr × Str)}
def spBut (K : PySem.W.Frag) (T : List (Addr × Str)) : Sp := fun vs H Q _ => ∃ (a b : Addr) (R L : List (List Int)) (m : Nat), vs = [.ref a, .ref b] ∧ LofT K H a R ∧ SofT K H b L ∧ Fits R L m ∧ Tabs T H ∧
  ∀ H', Ext H H' → Tabs T H' → Q (.bl (butOne R L)) H'
theorem ix_lt {X : Cx} : IxR X (fun x y H Q => rIxL X.K x y H Q ∨ rIxT X.K x y H Q) := ix_list.or ix_tup
theorem ok_but {f c Pt fW : Addr} {fd fdW : FuncData} {k : Nat} (F : Fun K "but_one" "but_one" sBut f fd) (G : Gn base mg T c Pt (inName "but_one" "<genexpr>")) (hc : fd.code = .ref c) (mm : mg "max" = none) (me : mg "enumerate" = none)
    (FW : Fun K "worth" "worth" sWorth fW fdW) (bW : Binds K fdW ["row", "things"] []) (gW : mg "worth" = some (.ref fW)) (GW : FnOk P w K mg base CX0 (k + 4) fW fdW ["row", "things"] (spWorth K T)) :
    FnOk P w K mg base CX0 (k + 5) f fd ["rows", "lots"] (spBut K T) := by
  refine okC F scBut (fun vs H Q E h => ?_) (fun cdv hcd A outer s H vs Q E hr h => ?_)
  · obtain ⟨a, b, R, L, m, rfl, _⟩ := h
    rfl
  · obtain ⟨a, b, R, L, m, rfl, hRR, hLL, fit, hT, q⟩ := h
    obtain ⟨vr, hR, tR⟩ := id hRR
    refine ⟨_, pss_cons (ps_for PassesOwn.never rfl (pi_enum rfl me (pa_cons (pv 0) pa_nil)) (pg_tup rfl (pgs_cons (pg_name (i := 2) scBut.nd rfl (.inl rfl)) (pgs_cons (pg_name (i := 3) scBut.nd rfl (.inr rfl)) pgs_nil)))
        (pss_one (ps_for PassesOwn.never rfl (PI.either (pi_list (pv 1)) (pi_tup (pv 1))) (pg_name (i := 4) scBut.nd rfl (.inl rfl))
          (pss_one (ps_if (PW.pt (pw_and (pt_cmpR (op_neD hr.units) (pv 4) (pe_tup pa_nil) (nomark _)) (pw_and1
            (pt_cmpR op_lt (pe_call GW hr (by rfl) gW FW.kp bW .nil pass0 (pa_cons (pv 3) (pa_cons (pe_ix ix_lt (pv 1) (pv 2) (fun _ _ => rfl)) pa_nil)))
              (pe_op op_sub (pe_call GW hr (by rfl) gW FW.kp bW .nil pass0 (pa_cons (pv 3) (pa_cons (pv 4) pa_nil)))
                (pe_maxG (T := T) (own := [("thing", 5)]) (g := gName 5) (te := fun _ => tOp (rIxT K) (tVar 3) (tVar 5)) (k := k + 1) hr rfl scBut.nd rfl mm G.tb.bm (pi_tup (pv 4)) (genOk_by (N := ["rows", "lots", "one", "row", "lot", "thing"]) (sc := defScope sBut) rfl rfl (by decide +kernel) (by decide +kernel) (by decide +kernel))
                  (fun _ _ _ _ _ _ => pg_name (i := 5) scBut.nd rfl (Or.inl rfl)) (fun _ _ _ _ _ _ _ => pe_ix ix_tup (pv 3) (pv 5) (fun _ _ => rfl)) (fun _ => rfl))) (nomark _)))))
            (pss_one (ps_ret pe_bl)) pss_nil))))) (pss_one (ps_ret pe_bl)), ?_⟩
    refine ⟨.ref a, rfl, a, vr, rfl, hR, for_enum (xs := vr) (fun i σ H1 => ∃ y2 y3 y4, σ = [some (.ref a), some (.ref b), y2, y3, y4, none] ∧ Ext H H1 ∧ Tabs T H1 ∧ ∀ i' < i, (L.all fun lot => butAt (R.getD i' []) (L.getD i' []) lot) = true)
      ⟨none, none, none, rfl, Ext.refl H, hT, fun i' hi' => absurd hi' (Nat.not_lt_zero _)⟩ (fun i σ H1 ⟨y2, y3, y4, _, x1, _⟩ => x1.seqL hR) (fun i rv Tp σ H1 hx ⟨y2, y3, y4, es, x1, t1, done⟩ hTp => ?_) (fun σ H1 ⟨y2, y3, y4, es, x1, t1, done⟩ => ?_)⟩
    · subst es
      have hi : i < R.length := by
        rw [← tR.1]
        exact (List.getElem?_eq_some_iff.mp hx).1
      have tr : TupI K H rv R[i] := tR.2 i rv _ hx (List.getElem?_eq_getElem hi)
      refine ⟨Tp, _, rfl, .inl (.inl upd_same), rfl, .int (i : Nat), [rv], rfl, rv, [], rfl, rfl, ?_⟩
      have x2 : Ext H1 (upd H1 Tp (.tup [.int (i : Nat), rv])) := Ext.new hTp
      have t2 : Tabs T (upd H1 Tp (.tup [.int (i : Nat), rv])) := t1.same (Same.new hTp)
      have hLL2 : SofT K (upd H1 Tp (.tup [.int (i : Nat), rv])) b L := hLL.ext (x1.trans x2)
      have hi' : i < L.length := by rw [fit.len]; exact hi
      have x12 := x1.trans x2
      rcases hLL with ⟨vl, hL, tL⟩ | ⟨vl, hL, tL⟩
      refine .inl ⟨.ref b, rfl, b, rfl, ⟨_, x12.seqL hL⟩, for_list (xs := vl) (fun j σ H2 => ∃ y4, σ = [some (.ref a), some (.ref b), some (.int (i : Nat)), some rv, y4, none] ∧ Ext H H2 ∧ Tabs T H2 ∧ ∀ lot ∈ L.take j, butAt (R.getD i []) (L.getD i []) lot = true)
        ⟨y4, rfl, x12, t2, fun lot hl => absurd hl (by simp)⟩ (fun j σ H2 _ ⟨_, _, x3, _⟩ => x3.seqL hL) ?hs1 ?hd1⟩
      rotate_left 2
      refine .inr ⟨.ref b, rfl, b, rfl, ⟨_, x12.seqT hL⟩, for_tup (xs := vl) (fun j σ H2 => ∃ y4, σ = [some (.ref a), some (.ref b), some (.int (i : Nat)), some rv, y4, none] ∧ Ext H H2 ∧ Tabs T H2 ∧ ∀ lot ∈ L.take j, butAt (R.getD i []) (L.getD i []) lot = true)
        ⟨y4, rfl, x12, t2, fun lot hl => absurd hl (by simp)⟩ (fun j σ H2 _ ⟨_, _, x3, _⟩ => x3.seqT hL) ?hs2 ?hd2⟩
      case hd1 | hd2 =>
        refine fun σ H2 ⟨y4, es, x3, t3, dn⟩ => ⟨_, _, y4, es, x3, t3, fun i' hi' => ?_⟩
        by_cases e : i' = i
        · subst e
          rw [List.all_eq_true]
          intro lot hl
          refine dn lot ?_
          rw [tL.1, List.take_length]
          exact hl
        · exact done i' (by omega)
      case hs1 | hs2 =>
        refine fun j lv σ H2 hj ⟨y4, es, x3, t3, dn⟩ => ?_
        subst es
        have hjl : j < L.length := by
          rw [← tL.1]
          exact (List.getElem?_eq_some_iff.mp hj).1
        have tl : TupI K H lv L[j] := tL.2 j lv _ hj (List.getElem?_eq_getElem hjl)
        obtain ⟨mv, hmv, tm⟩ := tL.get hi'
        have snoc : ∀ (bb : butAt (R.getD i []) (L.getD i []) L[j] = true), ∀ lot ∈ L.take (j + 1), butAt (R.getD i []) (L.getD i []) lot = true := fun bb lot hl => by
          rw [List.take_add_one, List.getElem?_eq_getElem hjl] at hl
          rcases List.mem_append.mp hl with z | z
          · exact dn lot z
          · have : lot = L[j] := by simpa using z
            rw [this]
            exact bb
        have hbutdef : butAt (R.getD i []) (L.getD i []) L[j] = !(decide (L[j] ≠ []) && decide (W R[i] L[i] < W R[i] L[j] - mx (L[j].map (at0 R[i])))) := by
          unfold butAt
          rw [getD_at hi, getD_at hi']
        refine ⟨lv, rfl, ⟨Nat.zero_le _, fun pe hpe => ?_⟩⟩
        have x4 : Ext H2 (upd H2 pe (.tup [])) := Ext.new hpe
        have t4 := t3.same (Same.new (o := .tup []) hpe)
        refine ⟨_, _, (tl.ext (x3.trans x4)).dp, .tup (SqT.of upd_same) .nil, shapedInts _, shapedInts [], _, rfl, ?_⟩
        rw [eqv_nil]
        by_cases hnil : L[j] = []
        · rw [decide_eq_true hnil]
          refine iteF (iteF ⟨_, rfl, x3.trans x4, t4, snoc ?_⟩)
          rw [hbutdef, hnil]
          rfl
        · rw [decide_eq_false hnil]
          refine iteT ?_
          have x34 := x3.trans x4
          have ixm : ∀ {H5 : Hp} {Q : V → Hp → Prop}, Ext H H5 → Q mv H5 → (rIxL K (.ref b) (.int (i : Nat)) H5 Q ∨ rIxT K (.ref b) (.int (i : Nat)) H5 Q) := fun {H5 Q} x5 qq => by
            first
              | exact .inl ⟨b, vl, (i : Nat), mv, rfl, rfl, x5.seqL hL, atI_nat hmv, qq⟩
              | exact .inr ⟨b, vl, (i : Nat), mv, rfl, rfl, x5.seqT hL, atI_nat hmv, qq⟩
          refine ⟨rv, rfl, .ref b, rfl, .int (i : Nat), rfl, ixm x34 ?_⟩
          refine ⟨rv, mv, R[i], L[i], rfl, tr.ext x34, tm.ext x34, fit.lot hi hi', t4, fun H5 x5 t5 => ?_⟩
          have x345 := x34.trans x5
          refine ⟨rv, rfl, lv, rfl, rv, lv, R[i], L[j], rfl, tr.ext x345, tl.ext x345, fit.lot hi hjl, t5, fun H6 x6 t6 => ?_⟩
          have x3456 := x345.trans x6
          obtain ⟨pl, rfl, hLj⟩ := id tl
          obtain ⟨pr, rfl, hRi⟩ := id tr
          refine ⟨.ref pl, rfl, pl, rfl, ⟨_, x3456.seqT hLj⟩, tGenC_of G (hcd.symm.trans hc) t6 fun cv H7 c' P' x7 t7 _ _ _ _ => ?_⟩
          have x37 := x3456.trans x7
          refine ⟨fun i2 m2 acc H8 => i2 ≤ L[j].length ∧ m2 = L[j].length - i2 ∧ acc = mxO ((L[j].map (at0 R[i])).take i2) ∧ H8 = H7, ⟨L[j].length, Nat.zero_le _, rfl, rfl, rfl⟩, fun i2 m2 acc H8 ⟨hi2, hm2, ha2, hH2⟩ => ?_⟩
          subst hH2
          by_cases hlt : i2 < L[j].length
          · have g : (L[j].map V.int)[i2]? = some (.int L[j][i2]) := by rw [List.getElem?_map, List.getElem?_eq_getElem hlt]; rfl
            refine .inr ⟨⟨_, _, x37.seqT hLj, g⟩, fun x H' ⟨eH, fx⟩ => ?_⟩
            subst eH
            have ex : x = .int L[j][i2] := Option.some.inj ((fx _ (x37.seqT hLj)).symm.trans g)
            subst ex
            obtain ⟨b0, b1⟩ := fit.lot hi hjl L[j][i2] (List.getElem_mem hlt)
            refine ⟨rfl, .ref pr, rfl, .int L[j][i2], rfl, pr, _, L[j][i2], _, rfl, rfl, x37.seqT hRi, atI_at0 b0 b1, _, rfl, m2 - 1, by omega, hlt, by omega, ?_, rfl⟩
            rw [List.take_add_one, List.getElem?_map, List.getElem?_eq_getElem hlt]
            show _ = mxO (_ ++ [at0 R[i] L[j][i2]])
            rw [mxO_snoc]
            subst ha2
            rfl
          · have hne : L[j].map (at0 R[i]) ≠ [] := fun z => hnil (List.map_eq_nil_iff.mp z)
            have htk : (L[j].map (at0 R[i])).take i2 = L[j].map (at0 R[i]) := List.take_of_length_le (by simp; omega)
            rw [htk] at ha2
            refine .inl ⟨⟨_, x37.seqT hLj, by simp; omega⟩, mx (L[j].map (at0 R[i])), ha2.trans (mxO_some hne), ?_⟩
            refine ⟨_, _, rfl, rfl, _, _, rfl, rfl, _, rfl, ite2 (fun hlt2 => ?_) (fun hge => ?_)⟩
            · have e : butOne R L = false := by
                unfold butOne
                rw [List.all_eq_false]
                refine ⟨i, List.mem_range.mpr hi, ?_⟩
                rw [Bool.not_eq_true, List.all_eq_false]
                refine ⟨L[j], List.getElem_mem hjl, ?_⟩
                rw [hbutdef]
                simp [hnil, of_decide_eq_true hlt2]
              have q' := q H8 x37 t7
              rw [e] at q'
              exact q'
            · refine ⟨_, rfl, x37, t7, snoc ?_⟩
              rw [hbutdef]
              have : ¬ (W R[i] L[i] < W R[i] L[j] - mx (L[j].map (at0 R[i]))) := fun z => hge (decide_eq_true z)
              simp [this]
    · subst es
      refine q H1 x1 t1 |> fun q' => ?_
      have e : butOne R L = true := by
        unfold butOne
        rw [List.all_eq_true]
        intro i' hi'
        exact done i' (by rw [tR.1]; exact List.mem_range.mp hi')
      rw [e] at q'
      exact q'
end
end PM
namespace PM
open PySem PySem.Spec PyProof.Rows L2 GenW
abbrev sCheck : Stmt := topS 12
theorem scCheck : FnScope ["rows", "found", "row", "worth"] ["rows"] (defScope sCheck) := ⟨rfl, rfl, rfl, by decide +kernel, rfl, by decide +kernel, by decide +kernel⟩
/-- all of one length, none below 0 -/
def badRow (R : List (List Int)) (r : List Int) : Bool := (decide (r.length ≠ (R.getD 0 []).length)) || r.any fun x => decide (x < 0)
def badRows (R : List (List Int)) : Bool := R.any (badRow R)
/-- what is known of an own exception class -/
structure OwnExc (K : PySem.W.Frag) (mg : Str → Option Value) (x : Str) (C : Addr) : Prop where
  ex : PySem.W.excIn K C [.type "ValueError", .type "Exception", .type "BaseException", .type "object"] "ValueError.__new__" = true
  g : mg x = some (.ref C)
  kp : PySem.W.keepIn K (.ref C) = true
  sub : PySem.W.subIn K (.ref C) (.type "BaseException") = some true
  ty : PySem.W.typeIn K (.ref C) = some (.type "type")
section
variable {P : Program} {w : World} {K : PySem.W.Frag} {mg : Str → Option Value} {base : Heap} {T : List (Addr × Str)}
def spCheck (K : PySem.W.Frag) (T : List (Addr × Str)) (C : Addr) : Sp := fun vs H Q E => ∃ (a : Addr) (R : List (List Int)), vs = [.ref a] ∧ LofT K H a R ∧ R.length ≤ 1000 ∧ (∀ r ∈ R, r.length ≤ 1000) ∧ Tabs T H ∧
  (badRows R = false → ∀ (vs' : List V) (H' : Hp) (p : Addr), TupsI K H' vs' R → H p = none → Ext H H' → Tabs T H' → H' p = some (.lst vs') → Q (.ref p) H') ∧
  (badRows R = true → ∀ H', Tabs T H' → E (.ref C) none H')
/-- the context of the inner generator expression, as far as its own table asks -/
abbrev withCode (X : Cx) (cv : Value) : Cx := { X with env := { X.env with code := cv } }
theorem ok_check {f c Pt C : Addr} {fd : FuncData} {k : Nat} (F : Fun K "check_rows" "check_rows" sCheck f fd) (G : Gn base mg T c Pt (inName "check_rows" "<genexpr>")) (hc : fd.code = .ref c) (ma : mg "any" = none) (ml : mg "len" = none) (mt : mg "tuple" = none)
    (ex : OwnExc K mg "BadSize" C) : FnOk P w K mg base (L2.CX P w) (k + 7) f fd ["rows"] (spCheck K T C) := by
  refine okCX F scCheck (fun vs H Q E h => ?_) (fun cdv hcd A outer s H vs Q E hr h => ?_)
  · obtain ⟨a, R, rfl, _⟩ := h
    rfl
  · obtain ⟨a, R, rfl, ⟨vr, hR, tR⟩, hn, hw, hT, qg, qb⟩ := h
    have hXb : ∀ (X : Cx), X.base = base → X.mg = mg → True := fun _ _ _ => trivial
    refine ⟨_, pss_cons (ps_set (i := 1) scCheck.nd rfl (Or.inr rfl) (pe_lc (own := [("row", 2)]) (g := gName 2) (tt := tYes) rfl scCheck.nd (pi_list (pv 0)) (blkOk_by (N := ["rows", "found", "row", "worth"]) (sc := defScope sCheck) (by decide +kernel)) (fun _ _ _ _ _ => pg_name (i := 2) scCheck.nd rfl (Or.inl rfl)) (fun _ _ _ _ _ => pts_nil)
        (fun _ _ _ _ _ => pe_callTy (r := fun xs H Q => ∃ a ys, xs = [.ref a] ∧ SqT K H a ys ∧ Q (.ref a) H) call_tupleT (by rfl) mt (by decide +kernel) (pa_cons (pv 2) pa_nil))))
      (pss_cons (ps_if (pt_val (pe_anyG (T := T) (own := [("row", 2)]) (g := gName 2) (k := k + 3) (wi := iList K (tVar 1))
          (te := fun cv => tOrV (tOp rNe (tCB (rLen K) (tCons (tVar 2) tNil)) (tCB (rLen K) (tCons (tOp (rIxL K) (tVar 1) (tC (.int 0))) tNil)))
            (tAnyG T (withCode (cxOf (L2.CX P w) P w K mg base ["rows", "found", "row", "worth"] "check_rows" (defScope sCheck) f cdv A outer s H E) cv) (inName "check_rows" "<genexpr>" ++ Str.ofString ".<genexpr>") (iTup K (tVar 2)) (gName 3) (fun _ => tOp (rI0 fun i j => .bl (decide (i < j))) (tVar 3) (tC (.int 0))) [3]))
          hr rfl scCheck.nd rfl ma G.tb.bm (pi_list (pv 1)) (genOk_by (N := ["rows", "found", "row", "worth"]) (sc := defScope sCheck) rfl rfl (by decide +kernel) (by decide +kernel) (by decide +kernel))
          (fun _ _ _ _ _ _ => pg_name (i := 2) scCheck.nd rfl (Or.inl rfl))
          (fun _ _ _ _ _ _ hr' => pe_or (pe_cmpR op_ne (pe_callB (cr_len rfl) (by rfl) ml PySem.boot_len (pa_cons (pv 2) pa_nil)) (pe_callB (cr_len rfl) (by rfl) ml PySem.boot_len (pa_cons (pe_ix ix_list (pv 1) pe_int (fun _ _ => rfl)) pa_nil)) (nomark _))
            (pe_one (pe_anyG (T := T) (own := [("worth", 3)]) (g := gName 3) (k := k) (wi := iTup K (tVar 2)) (te := fun _ => tOp (rI0 fun i j => .bl (decide (i < j))) (tVar 3) (tC (.int 0)))
              hr' rfl scCheck.nd rfl ma G.tb.bm (pi_tup (pv 2)) (genOk_by (N := ["rows", "found", "row", "worth"]) (sc := { kind := .function, names := [(".0", .local), ("row", .local), ("found", .free), ("len", .globalImplicit), ("any", .globalImplicit)], isGenerator := true, isCoroutine := false }) rfl rfl (by decide +kernel) (by decide +kernel) (by decide +kernel))
              (fun _ _ _ _ _ _ => pg_name (i := 3) scCheck.nd rfl (Or.inl rfl)) (fun _ _ _ _ _ _ _ => pe_cmpR op_lt (pv 3) pe_int (nomark _)) (fun _ => rfl))))
          (fun _ => rfl)))
        (pss_one (ps_raise rfl (takes_of rfl rfl rfl rfl) (pmk_own PySem.F.excBase_ValueError ex.ex ex.g ex.kp (raises_own ex.sub ex.ty) rfl))) pss_nil)
      (pss_one (ps_ret (pv 1)))), ?_⟩
    refine ⟨.ref a, rfl, a, rfl, ⟨_, hR⟩, fun D hD => lc_list (xs := vr) (fun i H1 => Ext H H1 ∧ Tabs T H1 ∧ H1 D = some (.lst (vr.take i))) ⟨Ext.new hD, hT.same (Same.new hD), upd_same⟩ (fun i H1 _ h => h.1.seqL hR) (fun i x H1 hx ⟨x1, t1, d1⟩ => ?_) (fun H1 ⟨x1, t1, d1⟩ => ?_)⟩
    · have hi : i < R.length := by
        rw [← tR.1]
        exact (List.getElem?_eq_some_iff.mp hx).1
      obtain ⟨p, ep, hp⟩ := tR.2 i x _ hx (List.getElem?_eq_getElem hi)
      subst ep
      refine ⟨rfl, .ref p, rfl, p, _, rfl, x1.seqT hp, _, d1, ?_, ?_, ?_, ?_⟩
      · rw [List.length_take]
        exact Nat.lt_of_le_of_lt (Nat.min_le_left _ _) (small1000 (by omega))
      · exact fun b o e n => by
          rw [upd_ne (fun z => by rw [z, hD] at e; cases e)]
          exact x1 b o e n
      · exact t1.lst d1
      · rw [upd_same, List.take_add_one, hx]
        rfl
    rw [List.take_length] at d1
    have tv : TupsI K H1 vr R := tR.ext x1
    refine ⟨.ref D, rfl, D, rfl, ⟨_, SqL.of d1⟩, tGenC_of G (hcd.symm.trans hc) t1 fun cv H2 c' P' x2 t2 ecv hc' hP' hTab => ?_⟩
    have x12 := x1.trans x2
    refine ⟨fun i m H3 => i ≤ R.length ∧ m = R.length - i ∧ Ext H H3 ∧ Ext H1 H3 ∧ Tabs T H3 ∧ H3 D = some (.lst vr) ∧ H3 c' = some (CodeX c' P' _) ∧ TabG H3 P' ∧ ∀ (j : Nat) (r : List Int), j < i → R[j]? = some r → badRow R r = false,
      ⟨R.length, Nat.zero_le _, rfl, x12, x2, t2, x2.lst d1, hc', hTab, fun j r hj => absurd hj (Nat.not_lt_zero _)⟩, fun i m H3 ⟨hi, hm, x3, x13, t3, d3, c3, b3, done⟩ => ?_⟩
    by_cases hlt : i < R.length
    · obtain ⟨rv, erv, trv⟩ := tR.get hlt
      have h0 : 0 < R.length := by omega
      obtain ⟨r0, er0, tr0⟩ := tR.get h0
      obtain ⟨p0, rfl, hp0⟩ := tr0.ext x3
      obtain ⟨pi, rfl, hpi⟩ := trv.ext x3
      refine .inr ⟨⟨_, _, SqL.of d3, erv⟩, fun x H' ⟨eH, fx⟩ => ?_⟩
      subst eH
      have ex' : x = .ref pi := Option.some.inj ((fx _ (SqL.of d3)).symm.trans erv)
      subst ex'
      refine ⟨rfl, .ref pi, rfl, pi, _, rfl, .inr hpi, .ref D, rfl, D, vr, 0, .ref p0, rfl, rfl, SqL.of d3, atI_nat (j := 0) er0, p0, _, rfl, .inr hp0, rfl, _, rfl, ?_⟩
      have hl1 : (R[i].map V.int).length = R[i].length := List.length_map _
      have hl0 : (R[0].map V.int).length = R[0].length := List.length_map _
      have hg0 : R.getD 0 [] = R[0] := getD_at h0
      by_cases hlen : R[i].length = R[0].length
      · have e : decide (V.int ((R[i].map V.int).length : Nat) = V.int ((R[0].map V.int).length : Nat)) = true := decide_eq_true (by rw [hl1, hl0, hlen])
        rw [e]
        refine iteF ?_
        refine ⟨.ref pi, rfl, pi, rfl, ⟨_, hpi⟩, c', P', ecv, .inr ⟨_, c3⟩, b3, t3, .inr hP', fun cv2 H4 gc _ => ?_⟩
        refine ⟨fun i2 m2 H5 => i2 ≤ R[i].length ∧ m2 = R[i].length - i2 ∧ H5 = H4 ∧ ∀ x ∈ R[i].take i2, ¬ x < 0, ⟨R[i].length, Nat.zero_le _, rfl, rfl, fun x hx => absurd hx (by simp)⟩, fun i2 m2 H5 ⟨hi2, hm2, eH5, done2⟩ => ?_⟩
        subst eH5
        have hp4 := gc.ext.seqT hpi
        by_cases hlt2 : i2 < R[i].length
        · have g : (R[i].map V.int)[i2]? = some (.int R[i][i2]) := by rw [List.getElem?_map, List.getElem?_eq_getElem hlt2]; rfl
          refine .inr ⟨⟨_, _, hp4, g⟩, fun x H' ⟨eH, fx⟩ => ?_⟩
          subst eH
          have ex' : x = .int R[i][i2] := Option.some.inj ((fx _ hp4).symm.trans g)
          subst ex'
          refine ⟨rfl, .int R[i][i2], rfl, _, _, rfl, rfl, _, rfl, ?_⟩
          by_cases hneg : R[i][i2] < 0
          · rw [decide_eq_true hneg]
            refine iteT ⟨_, rfl, iteT ⟨_, rfl, iteT ?_⟩⟩
            refine qb ?_ H' (by first | assumption | exact gc.tabs | exact gc.tabs t3)
            unfold badRows
            rw [List.any_eq_true]
            refine ⟨R[i], List.getElem_mem hlt, ?_⟩
            unfold badRow
            rw [Bool.or_eq_true, List.any_eq_true]
            exact .inr ⟨_, List.getElem_mem hlt2, decide_eq_true hneg⟩
          · rw [decide_eq_false hneg]
            refine iteF ⟨m2 - 1, by omega, hlt2, by omega, rfl, fun x hx => ?_⟩
            rw [List.take_add_one, List.getElem?_eq_getElem hlt2] at hx
            rcases List.mem_append.mp hx with z | z
            · exact done2 x z
            · have : x = R[i][i2] := by simpa using z
              rw [this]
              exact hneg
        · refine .inl ⟨⟨_, hp4, by simp; omega⟩, ⟨_, rfl, iteF ⟨m - 1, by omega, hlt, by omega, x3.trans gc.ext, x13.trans gc.ext, gc.tabs, gc.ext.lst d3, gc.ext _ _ c3 codeX_ne, gc.grow _ b3, fun j r hj hr => ?_⟩⟩⟩
          by_cases e : j = i
          · subst e
            rw [List.getElem?_eq_getElem hlt] at hr
            obtain rfl := Option.some.inj hr
            unfold badRow
            rw [hg0, Bool.or_eq_false_iff]
            refine ⟨decide_eq_false (by simpa using hlen), ?_⟩
            rw [List.any_eq_false]
            intro x hx
            have htk : R[j].take i2 = R[j] := List.take_of_length_le (by omega)
            rw [htk] at done2
            simpa using done2 x hx
          · exact done j r (by omega) hr
      · have e : decide (V.int ((R[i].map V.int).length : Nat) = V.int ((R[0].map V.int).length : Nat)) = false := decide_eq_false (by
          rw [hl1, hl0]
          intro z
          have := V.int.inj z
          omega)
        rw [e]
        refine iteT ⟨_, rfl, iteT ⟨_, rfl, iteT ?_⟩⟩
        refine qb ?_ H' (by first | assumption | exact gc.tabs | exact gc.tabs t3)
        unfold badRows
        rw [List.any_eq_true]
        refine ⟨R[i], List.getElem_mem hlt, ?_⟩
        unfold badRow
        rw [Bool.or_eq_true, hg0]
        exact .inl (decide_eq_true hlen)
    · refine .inl ⟨⟨_, SqL.of d3, by rw [tR.1]; omega⟩, ⟨_, rfl, iteF ?_⟩⟩
      refine ⟨.ref D, rfl, qg ?_ vr H3 D (tR.ext x3) hD x3 t3 d3⟩
      unfold badRows
      rw [List.any_eq_false]
      intro r hr
      obtain ⟨j, hj⟩ := List.mem_iff_getElem?.mp hr
      have := done j r (by have := (List.getElem?_eq_some_iff.mp hj).1; omega) hj
      rw [this]
      decide
end
end PM
namespace PM
open PySem PySem.Spec PyProof.Rows L2 GenW
abbrev sEnviers : Stmt := topS 17
theorem scEnviers : FnScope ["rows", "lots", "found", "one", "good", "other"] ["rows", "lots"] (defScope sEnviers) := ⟨rfl, rfl, rfl, by decide +kernel, rfl, by decide +kernel, by decide +kernel⟩
def optV : Option Nat → V
  | none => .non
  | some n => .int (n : Nat)
/-- who first would rather have one's lot -/
def envier (R L : List (List Int)) (one : Nat) : Option Nat := ((List.range R.length).filter fun other => envy R L other one).head?
def backs (R L : List (List Int)) : List (Option Nat) := (List.range R.length).map (envier R L)
def natV (l : List Nat) : List V := l.map fun (n : Nat) => V.int (n : Int)
theorem dpNats {K : PySem.W.Frag} {H : Hp} : ∀ ns : List Nat, DpAll K H (natV ns) (ns.map fun n : Nat => PyData.int (n : Int))
  | [] => .nil
  | n :: ns => .cons (.int _) (dpNats ns)
theorem shapedNats (ns : List Nat) : SeqAt.shaped (.list (ns.map fun n : Nat => PyData.int (n : Int))) = true := by
  have h1 : ∀ ns : List Nat, PyData.canLayAll0 (ns.map fun n : Nat => PyData.int (n : Int)) = true := fun ns => by
    induction ns with
    | nil => simp [PyData.canLayAll0]
    | cons a r ih => simp [PyData.canLayAll0, PyData.canLay0, ih]
  have h2 : PyData.depthAll (ns.map fun n : Nat => PyData.int (n : Int)) ≤ 1 := by
    have := intsDepth (ns.map fun n : Nat => (n : Int))
    rwa [List.map_map] at this
  show ((PyData.canLay0 (.list (ns.map fun n : Nat => PyData.int (n : Int)))) && decide (PyData.depth (.list (ns.map fun n : Nat => PyData.int (n : Int))) ≤ 64)) = true
  rw [Bool.and_eq_true]
  refine ⟨by simp only [PyData.canLay0]; exact h1 ns, decide_eq_true ?_⟩
  simp only [PyData.depth]
  omega
theorem eqv_nilL (ds : List PyData) : PyData.eqv (.list ds) (.list []) = decide (ds = []) := by
  cases ds with
  | nil => simp [PyData.eqv, PyData.eqvAll]
  | cons a r => simp [PyData.eqv, PyData.eqvAll]
section
variable {P : Program} {w : World} {K : PySem.W.Frag} {mg : Str → Option Value} {base : Heap} {T : List (Addr × Str)}
def spEnviers (K : PySem.W.Frag) (T : List (Addr × Str)) : Sp := fun vs H Q _ => ∃ (a b : Addr) (R L : List (List Int)) (m : Nat), vs = [.ref a, .ref b] ∧ LofT K H a R ∧ LofT K H b L ∧ Fits R L m ∧ R.length ≤ 1000 ∧ Tabs T H ∧
  ∀ (H' : Hp) (p : Addr), H p = none → Ext H H' → Tabs T H' → H' p = some (.lst ((backs R L).map optV)) → Q (.ref p) H'
theorem ok_enviers {f fE : Addr} {fd fdE : FuncData} {k : Nat} (F : Fun K "enviers" "enviers" sEnviers f fd) (mr : mg "range" = none) (ml : mg "len" = none)
    (FE : Fun K "envies" "envies" sEnvies fE fdE) (bE : Binds K fdE ["rows", "lots", "one", "other"] []) (gE : mg "envies" = some (.ref fE)) (GE : FnOk P w K mg base CX0 (k + 5) fE fdE ["rows", "lots", "one", "other"] (spEnvies K T)) :
    FnOk P w K mg base CX0 (k + 6) f fd ["rows", "lots"] (spEnviers K T) := by
  refine okC F scEnviers (fun vs H Q E h => ?_) (fun cdv hcd A outer s H vs Q E hr h => ?_)
  · obtain ⟨a, b, R, L, m, rfl, _⟩ := h
    rfl
  · obtain ⟨a, b, R, L, m, rfl, hRR, hLL, fit, hn, hT, q⟩ := h
    obtain ⟨vr, hR, tR⟩ := id hRR
    have hv : ((vr.length : Nat) : Int).toNat = R.length := by rw [tR.1]; omega
    refine ⟨_, pss_cons (ps_set (i := 2) scEnviers.nd rfl (Or.inl rfl) (pe_lst pa_nil))
      (pss_cons (ps_for PassesOwn.never rfl (pi_range1 (by rfl) mr (pa_cons (pe_callB (cr_len rfl) (by rfl) ml PySem.boot_len (pa_cons (pv 0) pa_nil)) pa_nil)) (pg_name (i := 3) scEnviers.nd rfl (.inr rfl))
        (pss_cons (ps_setLc (i := 4) (own := [("other", 5)]) (g := gName 5) (wi := iRng1 (tCons (tCB (rLen K) (tCons (tVar 0) tNil)) tNil)) rfl scEnviers.nd rfl rfl (sw_true rfl rfl rfl (by decide +kernel))
            (pi_range1 (by rfl) mr (pa_cons (pe_callB (cr_len rfl) (by rfl) ml PySem.boot_len (pa_cons (pv 0) pa_nil)) pa_nil))
            (blkOk_by (N := ["rows", "lots", "found", "one", "good", "other"]) (sc := defScope sEnviers) (by decide +kernel)) (fun _ _ _ _ _ => pg_name (i := 5) scEnviers.nd rfl (Or.inl rfl))
            (fun _ _ _ _ _ => pts_one (pt_val (pe_call GE hr (by rfl) gE FE.kp bE .nil pass0 (pa_cons (pv 0) (pa_cons (pv 1) (pa_cons (pv 5) (pa_cons (pv 3) pa_nil))))))) (fun _ _ _ _ _ => pv 5))
          (pss_one (ps_expr (pe_bm PySem.F.plainAttrs_list PySem.F.slot_list_append PySem.F.type_list_append mt_append (pv 2) (pa_cons (pe_ifExp (pt_cmpR (op_neD hr.units) (pv 4) (pe_lst pa_nil) (nomark _)) (pe_ix ix_list (pv 4) pe_int (fun _ _ => rfl)) pe_non) pa_nil))))))
      (pss_one (ps_ret (pv 2)))), ?_⟩
    refine ⟨Nat.zero_le _, fun o no => ?_⟩
    have x0 : Ext H (upd H o (.lst [])) := Ext.new no
    refine ⟨.ref a, rfl, a, vr, rfl, .inl (x0.seqL hR), _, rfl, by have := tR.1; omega, by have := tR.1; omega, ?_⟩
    refine for_range (lo := 0) (n := ((vr.length : Nat) : Int).toNat) (fun i σ H1 => ∃ y3 y4, σ = [some (.ref a), some (.ref b), some (.ref o), y3, y4, none] ∧ Ext H H1 ∧ Tabs T H1 ∧ H1 o = some (.lst (((backs R L).take i).map optV))) ⟨none, none, rfl, x0, hT.same (Same.new no), upd_same⟩ (fun i σ H1 hi ⟨y3, y4, es, x1, t1, o1⟩ => ?_) (fun σ H1 ⟨y3, y4, es, x1, t1, o1⟩ => ?_)
    · subst es
      rw [hv] at hi
      rw [Int.zero_add]
      refine ⟨.ref a, rfl, a, vr, rfl, .inl (x1.seqL hR), _, rfl, by have := tR.1; omega, by have := tR.1; omega, fun D hD => ?_⟩
      have nDo : D ≠ o := fun z => by rw [z, o1] at hD; cases hD
      refine lc_range (lo := 0) (n := ((vr.length : Nat) : Int).toNat) (fun j H2 => Ext H H2 ∧ Ext H1 H2 ∧ Tabs T H2 ∧ H2 D = some (.lst (natV (((List.range R.length).take j).filter fun other => envy R L other i)))) ⟨x1.trans (Ext.new hD), Ext.new hD, t1.same (Same.new hD), upd_same⟩ (fun j H2 hj ⟨x2, x12, t2, d2⟩ => ?_) (fun H2 ⟨x2, x12, t2, d2⟩ => ?_)
      · rw [hv] at hj
        rw [Int.zero_add]
        have htk : (List.range R.length).take (j + 1) = (List.range R.length).take j ++ [j] := by
          rw [List.take_add_one]
          simp [hj]
        refine ⟨rfl, .ref a, rfl, .ref b, rfl, .int j, rfl, .int i, rfl, a, b, R, L, m, j, i, rfl, hRR.ext x2, hLL.ext x2, fit, hj, hi, t2, fun H3 x3 t3 => ⟨_, rfl, ?_⟩⟩
        have d3 := x3.lst d2
        cases he : envy R L j i with
        | true =>
          refine iteT ⟨.int j, rfl, _, d3, ?_, ?_, ?_, t3.lst d3, ?_⟩
          · unfold natV
            rw [List.length_map]
            refine Nat.lt_of_le_of_lt (List.length_filter_le _ _) ?_
            rw [List.length_take]
            exact Nat.lt_of_le_of_lt (Nat.min_le_left _ _) (small1000 (by omega))
          · exact fun b' o' e n => by
              rw [upd_ne (fun z => by rw [z] at e; rw [x1.trans (Ext.refl _) _ _ e n] at hD; cases hD)]
              exact (x2.trans x3) b' o' e n
          · exact fun b' o' e n => by
              rw [upd_ne (fun z => by rw [z, hD] at e; cases e)]
              exact (x12.trans x3) b' o' e n
          · rw [upd_same, htk, List.filter_append]
            simp [natV, he]
        | false =>
          refine iteF ⟨x2.trans x3, x12.trans x3, t3, ?_⟩
          rw [htk, List.filter_append, d3]
          simp [he]
      · rw [hv] at d2
        have htk : (List.range R.length).take R.length = List.range R.length := List.take_of_length_le (by simp)
        rw [htk] at d2
        have o2 := x12.lst o1
        obtain ⟨good, eg⟩ : ∃ good, good = (List.range R.length).filter fun other => envy R L other i := ⟨_, rfl⟩
        rw [← eg] at d2
        have bsnoc : ((backs R L).take (i + 1)).map optV = ((backs R L).take i).map optV ++ [optV good.head?] := by
          have hb : (backs R L)[i]? = some good.head? := by
            unfold backs
            rw [List.getElem?_map]
            simp [hi, envier, eg]
          rw [List.take_add_one, hb]
          simp
        have hsz : (((backs R L).take i).map optV).length < sizeLine := by
          rw [List.length_map, List.length_take]
          exact Nat.lt_of_le_of_lt (Nat.min_le_left _ _) (small1000 (by omega))
        refine ⟨.ref o, rfl, .inl ⟨rfl, _, SqL.of o2⟩, .ref D, rfl, Nat.zero_le _, fun pe hpe => ?_⟩
        have x4 : Ext H2 (upd H2 pe (.lst [])) := Ext.new hpe
        have o4 := x4.lst o2
        have d4 := x4.lst d2
        refine ⟨_, _, .lst (SqL.of d4) (dpNats good), .lst (SqL.of upd_same) .nil, shapedNats good, by decide +kernel, _, rfl, ?_⟩
        rw [eqv_nilL]
        have t4 := t2.same (Same.new (o := .lst []) hpe)
        have fin : ∀ (v : V), v = optV good.head? → ∃ y3 y4', [some (V.ref a), some (.ref b), some (.ref o), some (.int (i : Nat)), some (.ref D), none] = [some (.ref a), some (.ref b), some (.ref o), y3, y4', none] ∧ Ext H (upd (upd H2 pe (.lst [])) o (.lst (((backs R L).take i).map optV ++ [v]))) ∧ Tabs T (upd (upd H2 pe (.lst [])) o (.lst (((backs R L).take i).map optV ++ [v]))) ∧ upd (upd H2 pe (.lst [])) o (.lst (((backs R L).take i).map optV ++ [v])) o = some (.lst (((backs R L).take (i + 1)).map optV)) := fun v ev => by
          refine ⟨_, _, rfl, fun b' o' e n => ?_, t4.lst o4, ?_⟩
          · rw [upd_ne (fun z => by rw [z, no] at e; cases e)]
            exact (x2.trans x4) b' o' e n
          · rw [upd_same, bsnoc, ev]
        cases good with
        | nil =>
          refine iteF ?_
          exact ⟨o, _, _, rfl, rfl, o4, hsz, fin .non rfl⟩
        | cons g gs =>
          refine iteT ?_
          exact ⟨.ref D, rfl, D, _, 0, .int g, rfl, rfl, SqL.of d4, atI_nat (j := 0) rfl, o, _, _, rfl, rfl, o4, hsz, fin _ rfl⟩
    · subst es
      have hb : (backs R L).length = R.length := by simp [backs]
      rw [hv] at o1
      rw [List.take_of_length_le (by omega)] at o1
      exact ⟨.ref o, rfl, q H1 o no x1 t1 o1⟩
end
end PM
namespace PM
/-! ### a ring of those who envy the next -/
structure RingOk (bs ring : List Nat) : Prop where
  ne : ring ≠ []
  nd : ring.Nodup
  lt : ∀ x ∈ ring, x < bs.length
  nx : ∀ p, p < ring.length → ∃ x y, ring[p]? = some x ∧ ring[(p + 1) % ring.length]? = some y ∧ bs[y]? = some x
theorem rot_get {r : List Nat} {k p : Nat} (hk : k < r.length) (hp : p < r.length) : (r.drop k ++ r.take k)[p]? = r[(p + k) % r.length]? := by
  by_cases h : p < r.length - k
  · rw [List.getElem?_append_left (by rw [List.length_drop]; exact h), List.getElem?_drop, Nat.mod_eq_of_lt (by omega), Nat.add_comm]
  · rw [List.getElem?_append_right (by rw [List.length_drop]; omega), List.length_drop, List.getElem?_take, if_pos (by omega)]
    have e : (p + k) % r.length = p - (r.length - k) := by
      rw [show p + k = (p - (r.length - k)) + r.length by omega, Nat.add_mod_right, Nat.mod_eq_of_lt (by omega)]
    rw [e]
theorem RingOk.rot {bs r : List Nat} (h : RingOk bs r) {k : Nat} (hk : k < r.length) : RingOk bs (r.drop k ++ r.take k) := by
  have hl : (r.drop k ++ r.take k).length = r.length := by simp; omega
  have hperm : (r.drop k ++ r.take k).Perm r := by
    have := List.perm_append_comm (l₁ := r.drop k) (l₂ := r.take k)
    rw [List.take_append_drop] at this
    exact this
  refine ⟨fun z => ?_, hperm.nodup_iff.mpr h.nd, fun x hx => h.lt x (hperm.mem_iff.mp hx), fun p hp => ?_⟩
  · rw [z] at hl
    simp at hl
    omega
  · rw [hl] at hp ⊢
    obtain ⟨x, y, e1, e2, e3⟩ := h.nx ((p + k) % r.length) (Nat.mod_lt _ (by omega))
    refine ⟨x, y, ?_, ?_, e3⟩
    · rw [rot_get hk hp, e1]
    · rw [rot_get hk (Nat.mod_lt _ (by omega)), ← e2]
      congr 1
      rw [Nat.mod_add_mod, Nat.mod_add_mod]
      congr 1
      omega
/-- the way so far: from 0, each behind the one it leads to -/
structure Way (bs sn : List Nat) (h : Nat) : Prop where
  nd : sn.Nodup
  lt : ∀ x ∈ sn, x < bs.length
  hlt : h < bs.length
  nx : ∀ i x, sn[i]? = some x → (i + 1 < sn.length → bs[x]? = sn[i + 1]?) ∧ (i + 1 = sn.length → bs[x]? = some h)
theorem Way.start {bs : List Nat} (h : 0 < bs.length) : Way bs [] 0 := ⟨List.nodup_nil, fun x hx => absurd hx (by simp), h, fun i x e => by simp at e⟩
theorem Way.snoc {bs sn : List Nat} {h h' : Nat} (w : Way bs sn h) (hn : h ∉ sn) (hb : bs[h]? = some h') (hl : h' < bs.length) : Way bs (sn ++ [h]) h' := by
  refine ⟨?_, fun x hx => ?_, hl, fun i x e => ?_⟩
  · rw [List.nodup_append]
    exact ⟨w.nd, by simp, fun a ha b hb' => by
      have : b = h := by simpa using hb'
      rw [this]
      intro z
      exact hn (z ▸ ha)⟩
  · rcases List.mem_append.mp hx with z | z
    · exact w.lt x z
    · have : x = h := by simpa using z
      rw [this]
      exact w.hlt
  · by_cases hi : i < sn.length
    · rw [List.getElem?_append_left hi] at e
      obtain ⟨n1, n2⟩ := w.nx i x e
      refine ⟨fun h1 => ?_, fun h1 => ?_⟩
      · by_cases h2 : i + 1 < sn.length
        · rw [n1 h2, List.getElem?_append_left h2]
        · have h3 : i + 1 = sn.length := by simp at h1; omega
          rw [n2 h3, h3, List.getElem?_concat_length]
      · simp at h1
        omega
    · have hl2 : i < (sn ++ [h]).length := (List.getElem?_eq_some_iff.mp e).1
      have e2 : i = sn.length := by simp at hl2; omega
      rw [e2, List.getElem?_concat_length] at e
      obtain rfl := Option.some.inj e
      exact ⟨fun h1 => by simp at h1; omega, fun _ => hb⟩
theorem nodup_lt : ∀ {n : Nat} {l : List Nat}, l.Nodup → (∀ x ∈ l, x < n) → l.length ≤ n := by
  intro n
  induction n with
  | zero =>
    intro l _ hl
    cases l with
    | nil => exact Nat.le_refl _
    | cons a r => exact absurd (hl a List.mem_cons_self) (Nat.not_lt_zero _)
  | succ n ih =>
    intro l hn hl
    have h1 := ih (hn.erase n) fun x hx => by
      rw [hn.mem_erase_iff] at hx
      have := hl x hx.2
      omega
    by_cases hm : n ∈ l
    · rw [List.length_erase_of_mem hm] at h1
      omega
    · rw [List.erase_of_not_mem hm] at h1
      omega
theorem Way.ring {bs sn : List Nat} {h j : Nat} (w : Way bs sn h) (hj : sn[j]? = some h) : RingOk bs (sn.drop j).reverse := by
  have hjl : j < sn.length := (List.getElem?_eq_some_iff.mp hj).1
  have hl : (sn.drop j).reverse.length = sn.length - j := by simp
  have get : ∀ p, p < sn.length - j → (sn.drop j).reverse[p]? = sn[sn.length - 1 - p]? := fun p hp => by
    rw [List.getElem?_reverse (by simp; exact hp), List.length_drop, List.getElem?_drop]
    congr 1
    omega
  refine ⟨fun z => ?_, ?_, fun x hx => ?_, fun p hp => ?_⟩
  · rw [z] at hl
    simp at hl
    omega
  · have := List.drop_sublist j sn
    exact (List.reverse_perm _).nodup_iff.mpr (w.nd.sublist this)
  · exact w.lt x (List.mem_of_mem_drop (List.mem_reverse.mp hx))
  · rw [hl] at hp ⊢
    have hq : sn.length - 1 - p < sn.length := by omega
    obtain ⟨x, ex⟩ : ∃ x, sn[sn.length - 1 - p]? = some x := ⟨_, List.getElem?_eq_getElem hq⟩
    by_cases hlast : p + 1 < sn.length - j
    · have hq2 : sn.length - 1 - (p + 1) < sn.length := by omega
      obtain ⟨y, ey⟩ : ∃ y, sn[sn.length - 1 - (p + 1)]? = some y := ⟨_, List.getElem?_eq_getElem hq2⟩
      refine ⟨x, y, by rw [get p hp, ex], by rw [Nat.mod_eq_of_lt hlast, get _ hlast, ey], ?_⟩
      rw [(w.nx _ y ey).1 (by omega), ← ex]
      congr 1
      omega
    · have ep : p + 1 = sn.length - j := by omega
      have hq2 : sn.length - 1 < sn.length := by omega
      obtain ⟨y, ey⟩ : ∃ y, sn[sn.length - 1]? = some y := ⟨_, List.getElem?_eq_getElem hq2⟩
      refine ⟨x, y, by rw [get p hp, ex], by rw [ep, Nat.mod_self, get 0 (by omega)]; exact ey, ?_⟩
      rw [(w.nx _ y ey).2 (by omega), ← ex, ← hj]
      congr 1
      omega
end PM
namespace PM
open PySem PySem.Spec PyProof.Rows L2 GenW
abbrev sRing : Stmt := topS 18
theorem scRing : FnScope ["backs", "seen", "here", "ring", "place"] ["backs"] (defScope sRing) := ⟨rfl, rfl, rfl, by decide +kernel, rfl, by decide +kernel, by decide +kernel⟩
theorem natV_flat (l : List Nat) : (natV l).all flatV = true := by
  rw [List.all_eq_true]
  intro x hx
  obtain ⟨n, _, rfl⟩ := List.mem_map.mp hx
  rfl
theorem inV_nat (n : Nat) (l : List Nat) : inV (.int (n : Nat)) (natV l) = decide (n ∈ l) := by
  rw [Bool.eq_iff_iff, decide_eq_true_iff]
  unfold inV
  rw [List.any_eq_true]
  constructor
  · rintro ⟨x, hx, e⟩
    obtain ⟨k, hk, rfl⟩ := List.mem_map.mp hx
    have e' : ((k : Int) == (n : Int)) = true := e
    have : k = n := by
      have := eq_of_beq e'
      omega
    rw [← this]
    exact hk
  · intro h
    refine ⟨.int (n : Nat), List.mem_map.mpr ⟨n, h, rfl⟩, ?_⟩
    show ((n : Int) == (n : Int)) = true
    simp
theorem natV_get {l : List Nat} {i x : Nat} (h : l[i]? = some x) : (natV l)[i]? = some (.int (x : Nat)) := by
  unfold natV
  rw [List.getElem?_map, h]
  rfl
theorem natV_len (l : List Nat) : (natV l).length = l.length := List.length_map _
theorem natV_map (l : List Nat) : natV l = (l.map fun n : Nat => (n : Int)).map V.int := by
  unfold natV
  rw [List.map_map]
  rfl
/-- the place of an item in a list without repeats -/
theorem nat_first {l : List Nat} (nd : l.Nodup) {j x : Nat} (h : l[j]? = some x) : ∀ (m : Nat) (z' : V), m < j → (natV l)[m]? = some z' → eqV z' (.int (x : Nat)) = false := fun m z' hm hz => by
  unfold natV at hz
  rw [List.getElem?_map] at hz
  cases e : l[m]? with
  | none => rw [e] at hz; cases hz
  | some y =>
    rw [e] at hz
    obtain rfl := Option.some.inj hz
    show ((y : Int) == (x : Int)) = false
    rw [beq_eq_false_iff_ne]
    intro z
    have hyx : y = x := by omega
    subst hyx
    have := nd_ix nd e h
    omega
section
variable {P : Program} {w : World} {K : PySem.W.Frag} {mg : Str → Option Value} {base : Heap}
def spRing (K : PySem.W.Frag) : Sp := fun vs H Q _ => ∃ (a : Addr) (bs : List Nat), vs = [.ref a] ∧ SqL K H a (natV bs) ∧ 0 < bs.length ∧ bs.length ≤ 1000 ∧ (∀ x ∈ bs, x < bs.length) ∧
  ∀ (ring : List Nat) (H' : Hp) (p : Addr), RingOk bs ring → H p = none → Same H H' → H' p = some (.tup (natV ring)) → Q (.ref p) H'
theorem cut_drop (xs : List V) (j : Nat) : cutV xs (some (j : Nat)) none = xs.drop j := by
  unfold cutV
  rw [HT.sIx_nat, HT.sIx_none]
  by_cases h : j ≤ xs.length
  · rw [Nat.min_eq_left h]
    exact List.take_of_length_le (by simp)
  · rw [Nat.min_eq_right (by omega), List.drop_of_length_le (Nat.le_refl _), List.drop_of_length_le (by omega)]
    simp
theorem cut_take (xs : List V) (j : Nat) : cutV xs none (some (j : Nat)) = xs.take j := by
  unfold cutV
  rw [HT.sIx_nat, HT.sIx_none]
  by_cases h : j ≤ xs.length
  · rw [Nat.min_eq_left h]
    simp
  · rw [Nat.min_eq_right (by omega)]
    simp
    rw [List.take_of_length_le (by omega)]
theorem ok_ring {f : Addr} {fd : FuncData} {k : Nat} (F : Fun K "ring_of" "ring_of" sRing f fd) (ml : mg "list" = none) (mr : mg "reversed" = none) (mm : mg "min" = none) (mt : mg "tuple" = none) : FnOk P w K mg base CX0 (k + 1) f fd ["backs"] (spRing K) := by
  refine okC F scRing (fun vs H Q E h => ?_) (fun cdv hcd A outer s H vs Q E hr h => ?_)
  · obtain ⟨a, bs, rfl, _⟩ := h
    rfl
  · obtain ⟨a, bs, rfl, hB, hpos, hle, hlt, q⟩ := h
    refine ⟨_, pss_cons (ps_par (i := 1) (j := 2) (by rfl) scRing.nd rfl rfl (by decide) rfl rfl (pa_cons (pe_lst pa_nil) (pa_cons pe_int pa_nil)) (by rfl))
      (pss_cons (ps_while PassesOwn.never (pt_cmpR op_notIn_seq (pv 2) (pv 1) (by rfl))
        (pss_cons (ps_expr (pe_bm PySem.F.plainAttrs_list PySem.F.slot_list_append PySem.F.type_list_append mt_append (pv 1) (pa_cons (pv 2) pa_nil)))
          (pss_one (ps_set (i := 2) scRing.nd rfl (Or.inl rfl) (pe_ix ix_list (pv 0) (pv 2) (fun _ _ => rfl))))))
      (pss_cons (ps_set (i := 3) scRing.nd rfl (Or.inl rfl) (pe_lstRev rfl (by rfl) ml (by rfl) mr (pe_slice sl_list (pv 1) (po_some (pe_bm PySem.F.plainAttrs_list PySem.F.slot_list_index PySem.F.type_list_index mt_index (pv 1) (pa_cons (pv 2) pa_nil))) po_none)))
      (pss_cons (ps_set (i := 4) scRing.nd rfl (Or.inl rfl) (pe_bm PySem.F.plainAttrs_list PySem.F.slot_list_index PySem.F.type_list_index mt_index (pv 3) (pa_cons (pe_callB (cr_min rfl) (by rfl) mm (by decide +kernel) (pa_cons (pv 3) pa_nil)) pa_nil)))
      (pss_one (ps_ret (pe_callTy call_tuple_of (by rfl) mt (by decide +kernel) (pa_cons (pe_op op_cat (pe_slice sl_list (pv 3) (po_some (pv 4)) po_none) (pe_slice sl_list (pv 3) po_none (po_some (pv 4)))) pa_nil))))))), ?_⟩
    refine ⟨Nat.zero_le _, fun o no => ⟨.ref o, .int 0, rfl, ?_⟩⟩
    have nao : ∀ {H' : Hp}, H' o = none → True := fun _ => trivial
    refine while_by (fun σ H1 => ∃ sn h, σ = [some (.ref a), some (.ref o), some (.int (h : Nat)), none, none] ∧ Way bs sn h ∧ (∀ b u, H b = some u → H1 b = some u) ∧ H1 o = some (.lst (natV sn))) (fun σ H1 => match H1 o with | some (.lst xs) => bs.length - xs.length | _ => 0)
      ⟨[], 0, rfl, Way.start hpos, Same.new no, upd_same⟩ (fun σ H1 ⟨sn, h, es, way, sm, o1⟩ => ?_) (fun σ H Q Q' hh hq => ?_)
    · subst es
      have hA : SqL K H1 a (natV bs) := Same.seq sm hB
      refine ⟨.int h, rfl, .ref o, rfl, o, _, rfl, .inl (SqL.of o1), rfl, natV_flat sn, _, rfl, ?_⟩
      show if (!inV (.int (h : Nat)) (natV sn)) = true then _ else _
      rw [inV_nat]
      by_cases hm : h ∈ sn
      · rw [decide_eq_true hm]
        refine iteF ?_
        obtain ⟨j, hj⟩ := List.mem_iff_getElem?.mp hm
        refine ⟨.ref o, rfl, .ref o, rfl, .inl ⟨rfl, _, SqL.of o1⟩, .int h, rfl, o, _, _, j, _, rfl, rfl, SqL.of o1, rfl, natV_flat sn, natV_get hj, by show ((h : Int) == (h : Int)) = true; simp, nat_first way.nd hj, ?_⟩
        refine ⟨(j : Nat), rfl, o, _, rfl, SqL.of o1, fun p2 hp2 => ?_⟩
        rw [cut_drop]
        have e2 : (natV sn).drop j = natV (sn.drop j) := by unfold natV; rw [List.map_drop]
        rw [e2]
        refine ⟨p2, _, rfl, SqL.of upd_same, fun p3 hp3 => ?_⟩
        have e3 : (natV (sn.drop j)).reverse = natV ((sn.drop j).reverse) := by unfold natV; rw [List.map_reverse]
        rw [e3]
        have R0 := way.ring hj
        obtain ⟨r0, er0⟩ : ∃ r0, r0 = (sn.drop j).reverse := ⟨_, rfl⟩
        rw [← er0] at R0 ⊢
        obtain ⟨H3, eH3⟩ : ∃ H3, H3 = upd (upd H1 p2 (.lst (natV (sn.drop j)))) p3 (.lst (natV r0)) := ⟨_, rfl⟩
        rw [← eH3]
        have h3 : H3 p3 = some (.lst (natV r0)) := by rw [eH3, upd_same]
        have s3 : Same H H3 := by
          rw [eH3]
          exact Same.trans sm (Same.trans (Same.new hp2) (Same.new hp3))
        have hr0 : 0 < r0.length := by
          cases hq : r0 with
          | nil => exact absurd hq R0.ne
          | cons _ _ => exact Nat.succ_pos _
        refine ⟨.ref p3, rfl, .inl ⟨rfl, _, SqL.of h3⟩, .ref p3, rfl, p3, r0.map (fun n : Nat => (n : Int)), rfl, by rw [← natV_map]; exact SqL.of h3, by simpa using hr0, fun m hmm hmin => ?_⟩
        obtain ⟨x, hx, rfl⟩ := List.mem_map.mp hmm
        obtain ⟨pl, hpl⟩ := List.mem_iff_getElem?.mp hx
        have hpll : pl < r0.length := (List.getElem?_eq_some_iff.mp hpl).1
        refine ⟨p3, _, _, pl, _, rfl, rfl, SqL.of h3, rfl, natV_flat r0, natV_get hpl, by show ((x : Int) == (x : Int)) = true; simp, nat_first R0.nd hpl, ?_⟩
        refine ⟨.ref p3, rfl, .int pl, rfl, (pl : Nat), rfl, p3, _, rfl, SqL.of h3, fun p4 hp4 => ?_⟩
        rw [cut_drop]
        have h4 : upd H3 p4 (.lst ((natV r0).drop pl)) p3 = some (.lst (natV r0)) := by
          rw [upd_ne (fun z => by rw [z, hp4] at h3; cases h3)]
          exact h3
        refine ⟨.ref p3, rfl, .int pl, rfl, (pl : Nat), rfl, p3, _, rfl, SqL.of h4, fun p5 hp5 => ?_⟩
        rw [cut_take]
        have n45 : p4 ≠ p5 := fun z => by rw [← z, upd_same] at hp5; cases hp5
        have eR : (natV r0).drop pl ++ (natV r0).take pl = natV (r0.drop pl ++ r0.take pl) := by unfold natV; rw [List.map_append, List.map_drop, List.map_take]
        have hl : (natV (r0.drop pl ++ r0.take pl)).length ≤ 1000 := by
          have := nodup_lt (R0.rot hpll).nd (R0.rot hpll).lt
          rw [natV_len]
          omega
        refine ⟨p4, p5, _, _, rfl, rfl, by rw [upd_ne n45, upd_same], upd_same, ?_, fun p6 hp6 => ?_⟩
        · rw [← List.length_append, eR]
          exact Nat.le_of_lt (small1000 hl)
        · rw [eR]
          refine ⟨p6, _, rfl, .inl ⟨SqL.of upd_same, fun p7 hp7 => ?_⟩⟩
          have s7 := Same.trans s3 (Same.trans (Same.new (o := .lst ((natV r0).drop pl)) hp4) (Same.trans (Same.new (o := .lst ((natV r0).take pl)) hp5) (Same.trans (Same.new (o := .lst (natV (r0.drop pl ++ r0.take pl))) hp6) (Same.new (o := .tup (natV (r0.drop pl ++ r0.take pl))) hp7))))
          have n7 : H p7 = none := Same.free (Same.trans s3 (Same.trans (Same.new (o := .lst ((natV r0).drop pl)) hp4) (Same.trans (Same.new (o := .lst ((natV r0).take pl)) hp5) (Same.new (o := .lst (natV (r0.drop pl ++ r0.take pl))) hp6)))) hp7
          exact q _ _ p7 (R0.rot hpll) n7 s7 upd_same
      · rw [decide_eq_false hm]
        refine iteT ?_
        have hlen : sn.length < bs.length := by
          have h2 : (sn ++ [h]).Nodup := by
            rw [List.nodup_append]
            exact ⟨way.nd, by simp, fun a ha b hb' => by
              have : b = h := by simpa using hb'
              rw [this]
              intro z
              exact hm (z ▸ ha)⟩
          have := nodup_lt h2 (n := bs.length) fun x hx => by
            rcases List.mem_append.mp hx with z | z
            · exact way.lt x z
            · have : x = h := by simpa using z
              rw [this]
              exact way.hlt
          simp at this; omega
        refine ⟨.ref o, rfl, .inl ⟨rfl, _, SqL.of o1⟩, .int h, rfl, o, _, _, rfl, rfl, o1, by rw [natV_len]; exact small1000 (by omega), ?_⟩
        obtain ⟨h', eh'⟩ : ∃ h', bs[h]? = some h' := ⟨_, List.getElem?_eq_getElem way.hlt⟩
        have sm2 : Same H (upd H1 o (.lst (natV sn ++ [.int (h : Nat)]))) := fun b u e => by
          rw [upd_ne (fun z => by rw [z, no] at e; cases e)]
          exact sm b u e
        have esn : natV sn ++ [.int (h : Nat)] = natV (sn ++ [h]) := by unfold natV; rw [List.map_append]; rfl
        rw [esn] at sm2 ⊢
        refine ⟨.ref a, rfl, .int h, rfl, a, _, h, .int h', rfl, rfl, Same.seq sm2 hB, atI_nat (natV_get eh'), ⟨sn ++ [h], h', rfl, way.snoc hm eh' (hlt h' (List.mem_of_getElem? eh')), sm2, upd_same⟩, ?_⟩
        rw [upd_same, o1]
        simp only [natV_len, List.length_append, List.length_cons, List.length_nil]
        omega
    · obtain ⟨v, e1, v2, e2, p, xs, e3, e4, e5, e6, k', e7, q'⟩ := hq
      exact ⟨v, e1, v2, e2, p, xs, e3, e4, e5, e6, k', e7, hh _ _ q'⟩
end
end PM
namespace PM
open PySem PySem.Spec PyProof.Rows L2 GenW
abbrev sPassed : Stmt := topS 19
theorem scPassed : FnScope ["lots", "ring", "found", "place", "one"] ["lots", "ring"] (defScope sPassed) := ⟨rfl, rfl, rfl, by decide +kernel, rfl, by decide +kernel, by decide +kernel⟩
/-- the first n of the ring have what the next of the ring had -/
def passN {α : Type} (d : α) (vs : List α) (ring : List Nat) : Nat → List α
  | 0 => vs
  | p + 1 => (passN d vs ring p).set (ring.getD p 0) (vs.getD (ring.getD ((p + 1) % ring.length) 0) d)
theorem passN_len {α : Type} {d : α} {vs : List α} {ring : List Nat} : ∀ p, (passN d vs ring p).length = vs.length
  | 0 => rfl
  | p + 1 => by
    unfold passN
    rw [List.length_set]
    exact passN_len p
theorem passN_tups {K : PySem.W.Frag} {H : Hp} {vs : List V} {L : List (List Int)} {ring : List Nat} (h : TupsI K H vs L) (hr : ∀ x ∈ ring, x < L.length) : ∀ p, p ≤ ring.length → TupsI K H (passN .non vs ring p) (passN [] L ring p)
  | 0, _ => h
  | p + 1, hp => by
    unfold passN
    refine (passN_tups h hr p (by omega)).set ?_ _
    have hm : (p + 1) % ring.length < ring.length := Nat.mod_lt _ (by omega)
    have hx : ring.getD ((p + 1) % ring.length) 0 < L.length := by
      simp [hm]
      exact hr _ (List.getElem_mem hm)
    obtain ⟨v, e, t⟩ := h.get hx
    have e1 : vs.getD (ring.getD ((p + 1) % ring.length) 0) .non = v := by simp only [List.getD_eq_getElem?_getD] at e ⊢; rw [e]; rfl
    have e2 : L.getD (ring.getD ((p + 1) % ring.length) 0) [] = L[ring.getD ((p + 1) % ring.length) 0] := getD_at hx
    rw [e1, e2]
    exact t
theorem ixN_of {n j : Nat} (h : j < n) : ixN n (j : Int) = some j := by
  unfold ixN
  rw [if_pos (by omega)]
  simp [h]
section
variable {P : Program} {w : World} {K : PySem.W.Frag} {mg : Str → Option Value} {base : Heap}
def spPassed (K : PySem.W.Frag) : Sp := fun vs H Q _ => ∃ (a r : Addr) (xs : List V) (ring : List Nat), vs = [.ref a, .ref r] ∧ SqL K H a xs ∧ SqT K H r (natV ring) ∧ (∀ x ∈ ring, x < xs.length) ∧
  ∀ (H' : Hp) (p : Addr), H p = none → Same H H' → H' p = some (.lst (passN .non xs ring ring.length)) → Q (.ref p) H'
theorem ok_passed {f : Addr} {fd : FuncData} {k : Nat} (F : Fun K "passed" "passed" sPassed f fd) (ml : mg "list" = none) (me : mg "enumerate" = none) (mn : mg "len" = none) : FnOk P w K mg base CX0 (k + 1) f fd ["lots", "ring"] (spPassed K) := by
  refine okC F scPassed (fun vs H Q E h => ?_) (fun cdv hcd A outer s H vs Q E hr h => ?_)
  · obtain ⟨a, r, xs, ring, rfl, _⟩ := h
    rfl
  · obtain ⟨a, r, xs, ring, rfl, hA, hR, hlt, q⟩ := h
    refine ⟨_, pss_cons (ps_set (i := 2) scPassed.nd rfl (Or.inl rfl) (pe_callTy call_list_of (by rfl) ml (by decide +kernel) (pa_cons (pv 0) pa_nil)))
      (pss_cons (ps_for PassesOwn.never rfl (pi_enumT rfl me (pa_cons (pv 1) pa_nil)) (pg_tup rfl (pgs_cons (pg_name (i := 3) scPassed.nd rfl (.inl rfl)) (pgs_cons (pg_name (i := 4) scPassed.nd rfl (.inl rfl)) pgs_nil)))
        (pss_one (ps_asg (pe_ix ix_list (pv 0) (pe_ix ix_tup (pv 1) (pe_op op_modN (pe_op op_add (pv 3) pe_int) (pe_callB (cr_len rfl) (by rfl) mn PySem.boot_len (pa_cons (pv 1) pa_nil))) (fun _ _ => rfl)) (fun _ _ => rfl)) (pg_sub (pv 2) (pv 4) set_list))))
      (pss_one (ps_ret (pv 2)))), ?_⟩
    refine ⟨.ref a, rfl, a, xs, rfl, .inl hA, fun o no => ?_⟩
    refine ⟨.ref r, rfl, r, _, rfl, Same.seqT (Same.new no) hR, for_enumT (xs := natV ring) (fun i σ H1 => ∃ y3 y4, σ = [some (.ref a), some (.ref r), some (.ref o), y3, y4] ∧ (∀ b u, H b = some u → H1 b = some u) ∧ H1 o = some (.lst (passN .non xs ring i)))
      ⟨none, none, rfl, Same.new no, upd_same⟩ (fun i σ H1 ⟨y3, y4, es, sm, o1⟩ => Same.seqT sm hR) (fun i x Tp σ H1 hx ⟨y3, y4, es, sm, o1⟩ hTp => ?_) (fun σ H1 ⟨y3, y4, es, sm, o1⟩ => ?_)⟩
    · subst es
      have hi : i < ring.length := by
        have := (List.getElem?_eq_some_iff.mp hx).1
        rwa [natV_len] at this
      have ex : x = .int (ring[i] : Nat) := by
        rw [natV_get (List.getElem?_eq_getElem hi)] at hx
        exact (Option.some.inj hx).symm
      subst ex
      have hm : (i + 1) % ring.length < ring.length := Nat.mod_lt _ (by omega)
      have n0 : o ≠ Tp := fun z => by rw [← z, o1] at hTp; cases hTp
      have sm2 : Same H (upd H1 Tp (.tup [.int (i : Nat), .int (ring[i] : Nat)])) := Same.trans sm (Same.new hTp)
      have o2 : upd H1 Tp (.tup [.int (i : Nat), .int (ring[i] : Nat)]) o = some (.lst (passN .non xs ring i)) := by
        rw [upd_ne n0]
        exact o1
      refine ⟨Tp, _, rfl, .inl (.inl upd_same), rfl, .int (i : Nat), [.int (ring[i] : Nat)], rfl, .int (ring[i] : Nat), [], rfl, rfl, ?_⟩
      have hxl : ring[(i + 1) % ring.length] < xs.length := hlt _ (List.getElem_mem hm)
      refine ⟨.ref a, rfl, .ref r, rfl, .int (i : Nat), rfl, _, _, rfl, rfl, .ref r, rfl, r, _, rfl, .inr (Same.seqT sm2 hR), _, _, rfl, rfl, ?_, ?_⟩
      · rw [natV_len]
        omega
      · have ef : Int.fmod ((i : Int) + 1) ((natV ring).length : Nat) = (((i + 1) % ring.length : Nat) : Int) := by
          rw [natV_len, Int.fmod_eq_emod_of_nonneg _ (by omega), Int.natCast_emod, Int.natCast_add]
          rfl
        refine ⟨r, natV ring, _, .int (ring[(i + 1) % ring.length] : Nat), rfl, rfl, Same.seqT sm2 hR, ?_, a, xs, _, xs[ring[(i + 1) % ring.length]], rfl, rfl, Same.seq sm2 hA, atI_nat (List.getElem?_eq_getElem hxl), ?_⟩
        · rw [ef]
          exact atI_nat (natV_get (List.getElem?_eq_getElem hm))
        · refine ⟨.ref o, rfl, .int (ring[i] : Nat), rfl, o, _, _, ring[i], rfl, rfl, o2, ixN_of (by rw [passN_len]; exact hlt _ (List.getElem_mem hi)), _, _, rfl, fun b u e => ?_, ?_⟩
          · rw [upd_ne (fun z => by rw [z, no] at e; cases e)]
            exact sm2 b u e
          · rw [upd_same]
            show _ = some (HO.lst ((passN .non xs ring i).set (ring.getD i 0) (xs.getD (ring.getD ((i + 1) % ring.length) 0) .non)))
            have e1 : ring.getD i 0 = ring[i] := by simp [hi]
            have e2 : ring.getD ((i + 1) % ring.length) 0 = ring[(i + 1) % ring.length] := by simp [hm]
            have e3 : xs.getD ring[(i + 1) % ring.length] .non = xs[ring[(i + 1) % ring.length]] := by simp [hxl]
            rw [e1, e2, e3]
    · subst es
      rw [natV_len] at o1
      exact ⟨.ref o, rfl, q H1 o no sm o1⟩
end
end PM
namespace PM
open PySem PySem.Spec PyProof.Rows L2 GenW
/-! ### worth and greatest do not ask for an order -/
theorem sum_perm {l l' : List Int} (h : l.Perm l') : l.sum = l'.sum := by
  induction h with
  | nil => rfl
  | cons x _ ih => simp [ih]
  | swap x y l => simp only [List.sum_cons]; omega
  | trans _ _ h1 h2 => exact h1.trans h2
theorem W_perm {r l l' : List Int} (h : l.Perm l') : W r l = W r l' := sum_perm (h.map _)
theorem mx_perm {l l' : List Int} (h : l.Perm l') : mx l = mx l' := by
  by_cases e : l = []
  · subst e
    have := h.nil_eq
    rw [← this]
  · have e' : l' ≠ [] := fun z => by subst z; exact e h.eq_nil
    obtain ⟨h1, h2⟩ := mx_mem e
    obtain ⟨h3, h4⟩ := mx_mem e'
    have a := h4 _ (h.mem_iff.mp h1)
    have b := h2 _ (h.mem_iff.mpr h3)
    omega
theorem butAt_iff {r la lb : List Int} : butAt r la lb = true ↔ (lb = [] ∨ W r lb - mx (lb.map (at0 r)) ≤ W r la) := by
  unfold butAt
  by_cases h : lb = []
  · subst h
    simp
  · by_cases h2 : W r la < W r lb - mx (lb.map (at0 r))
    · simp only [h, h2, decide_true, Bool.and_true, ne_eq, not_false_eq_true, Bool.not_true, Bool.false_eq_true, false_or, false_iff]
      omega
    · simp only [h, h2, decide_false, Bool.and_false, Bool.not_false, true_iff, false_or]
      omega
theorem butAt_perm {r la la' lb lb' : List Int} (ha : la.Perm la') (hb : lb.Perm lb') : butAt r la lb = butAt r la' lb' := by
  rw [Bool.eq_iff_iff, butAt_iff, butAt_iff, W_perm ha, W_perm hb, mx_perm (hb.map _)]
  constructor
  · rintro (h | h)
    · subst h
      exact .inl hb.nil_eq.symm
    · exact .inr h
  · rintro (h | h)
    · subst h
      exact .inl hb.eq_nil
    · exact .inr h
theorem W_nil (r : List Int) : W r [] = 0 := rfl
theorem W_snoc (r l : List Int) (t : Int) : W r (l ++ [t]) = W r l + at0 r t := by
  unfold W
  simp
/-! ### the lots while things are given -/
structure LotInv (L : List (List Int)) (n i : Nat) : Prop where
  len : L.length = n
  one : ∀ (j : Nat) (l : List Int), L[j]? = some l → l.Nodup ∧ ∀ t ∈ l, 0 ≤ t ∧ t < i
  all : ∀ t : Int, 0 ≤ t → t < i → ∃ (j : Nat) (l : List Int), L[j]? = some l ∧ t ∈ l
  apart : ∀ (j j' : Nat) (l l' : List Int) (t : Int), L[j]? = some l → L[j']? = some l' → t ∈ l → t ∈ l' → j = j'
/-- without one thing nobody envies -/
def Ef1 (R L : List (List Int)) : Prop := ∀ (a b : Nat) (r la lb : List Int), R[a]? = some r → L[a]? = some la → L[b]? = some lb → butAt r la lb = true
theorem butOne_iff {R L : List (List Int)} (hl : L.length = R.length) : butOne R L = true ↔ Ef1 R L := by
  unfold butOne
  rw [List.all_eq_true]
  constructor
  · intro h a b r la lb ea el eb
    have ha := (List.getElem?_eq_some_iff.mp ea).1
    have := h a (List.mem_range.mpr ha)
    rw [List.all_eq_true] at this
    have h2 := this lb (List.mem_of_getElem? eb)
    rw [List.getD_eq_getElem?_getD, List.getD_eq_getElem?_getD, ea, el] at h2
    exact h2
  · intro h a ha
    rw [List.all_eq_true]
    intro lb hb
    obtain ⟨b, eb⟩ := List.mem_iff_getElem?.mp hb
    have ha := List.mem_range.mp ha
    rw [getD_at ha, getD_at (by omega)]
    exact h a b _ _ lb (List.getElem?_eq_getElem ha) (List.getElem?_eq_getElem (by omega)) eb
theorem LotInv.start (n : Nat) : LotInv (List.replicate n []) n 0 := by
  refine ⟨by simp, fun j l e => ?_, fun t h0 h1 => by omega, fun j j' l l' t e e' h h' => ?_⟩
  · have := List.eq_of_mem_replicate (List.mem_of_getElem? e)
    subst this
    exact ⟨List.nodup_nil, fun t ht => absurd ht (by simp)⟩
  · have := List.eq_of_mem_replicate (List.mem_of_getElem? e)
    subst this
    exact absurd h (by simp)
theorem Ef1.start (R : List (List Int)) (n : Nat) : Ef1 R (List.replicate n []) := fun a b r la lb ea el eb => by
  have := List.eq_of_mem_replicate (List.mem_of_getElem? eb)
  subst this
  rw [butAt_iff]
  exact .inl rfl
theorem LotInv.add {L : List (List Int)} {n i f : Nat} {lf : List Int} (h : LotInv L n i) (hf : L[f]? = some lf) : LotInv (L.set f (lf ++ [(i : Int)])) n (i + 1) := by
  have hfl : f < L.length := (List.getElem?_eq_some_iff.mp hf).1
  have get : ∀ (j : Nat) (l : List Int), (L.set f (lf ++ [(i : Int)]))[j]? = some l → (j = f ∧ l = lf ++ [(i : Int)]) ∨ (j ≠ f ∧ L[j]? = some l) := fun j l e => by
    by_cases hj : f = j
    · subst hj
      rw [List.getElem?_set_self hfl] at e
      exact .inl ⟨rfl, (Option.some.inj e).symm⟩
    · rw [List.getElem?_set_ne hj] at e
      exact .inr ⟨Ne.symm hj, e⟩
  refine ⟨by rw [List.length_set]; exact h.len, fun j l e => ?_, fun t h0 h1 => ?_, fun j j' l l' t e e' ht ht' => ?_⟩
  · rcases get j l e with ⟨rfl, rfl⟩ | ⟨hj, e⟩
    · obtain ⟨n1, n2⟩ := h.one _ _ hf
      refine ⟨?_, fun t ht => ?_⟩
      · rw [List.nodup_append]
        exact ⟨n1, by simp, fun a ha b hb => by
          have := n2 a ha
          have hb : b = (i : Int) := by simpa using hb
          omega⟩
      · rcases List.mem_append.mp ht with z | z
        · have := n2 t z
          omega
        · have : t = (i : Int) := by simpa using z
          omega
    · obtain ⟨n1, n2⟩ := h.one _ _ e
      exact ⟨n1, fun t ht => by have := n2 t ht; omega⟩
  · by_cases ht : t = i
    · exact ⟨f, _, List.getElem?_set_self hfl, by simp [ht]⟩
    · obtain ⟨j, l, e, hm⟩ := h.all t h0 (by omega)
      by_cases hj : f = j
      · subst hj
        rw [hf] at e
        obtain rfl := Option.some.inj e
        exact ⟨f, _, List.getElem?_set_self hfl, by simp [hm]⟩
      · exact ⟨j, l, by rw [List.getElem?_set_ne hj]; exact e, hm⟩
  · have old : ∀ (j : Nat) (l : List Int), L[j]? = some l → (i : Int) ∉ l := fun j l e z => by
      have := ((h.one j l e).2 _ z).2
      omega
    rcases get j l e with ⟨ej, el⟩ | ⟨hj, e2⟩ <;> rcases get j' l' e' with ⟨ej', el'⟩ | ⟨hj', e2'⟩
    · rw [ej, ej']
    · rw [el] at ht
      rcases List.mem_append.mp ht with z | z
      · rw [ej]
        exact h.apart _ _ _ _ t hf e2' z ht'
      · have : t = (i : Int) := by simpa using z
        subst this
        exact absurd ht' (old _ _ e2')
    · rw [el'] at ht'
      rcases List.mem_append.mp ht' with z | z
      · rw [ej']
        exact h.apart _ _ _ _ t e2 hf ht z
      · have : t = (i : Int) := by simpa using z
        subst this
        exact absurd ht (old _ _ e2)
    · exact h.apart _ _ _ _ t e2 e2' ht ht'
/-- rows of one length, 0 .. 5 -/
structure RowsOk (R : List (List Int)) (n m : Nat) : Prop where
  len : R.length = n
  row : ∀ r ∈ R, r.length = m ∧ ∀ x ∈ r, 0 ≤ x ∧ x ≤ 5
theorem RowsOk.at0 {R : List (List Int)} {n m : Nat} (h : RowsOk R n m) {a : Nat} {r : List Int} (hr : R[a]? = some r) (t : Int) : 0 ≤ at0 r t ∧ at0 r t ≤ 5 := by
  unfold PM.at0
  by_cases ht : t.toNat < r.length
  · simp only [List.getD_eq_getElem?_getD, List.getElem?_eq_getElem ht, Option.getD_some]
    exact (h.row r (List.mem_of_getElem? hr)).2 _ (List.getElem_mem ht)
  · simp only [List.getD_eq_getElem?_getD, List.getElem?_eq_none (Nat.le_of_not_lt ht), Option.getD_none]
    omega
/-- the thing goes to one whom nobody envies -/
theorem Ef1.add {R L : List (List Int)} {n m i f : Nat} {lf : List Int} (ok : RowsOk R n m) (h : Ef1 R L) (hl : L.length = n) (hf : L[f]? = some lf)
    (free : ∀ (a : Nat) (r la : List Int), R[a]? = some r → L[a]? = some la → W r lf ≤ W r la) : Ef1 R (L.set f (lf ++ [(i : Int)])) := by
  have hfl : f < L.length := (List.getElem?_eq_some_iff.mp hf).1
  have get : ∀ (j : Nat) (l : List Int), (L.set f (lf ++ [(i : Int)]))[j]? = some l → (j = f ∧ l = lf ++ [(i : Int)]) ∨ (j ≠ f ∧ L[j]? = some l) := fun j l e => by
    by_cases hj : f = j
    · subst hj
      rw [List.getElem?_set_self hfl] at e
      exact .inl ⟨rfl, (Option.some.inj e).symm⟩
    · rw [List.getElem?_set_ne hj] at e
      exact .inr ⟨Ne.symm hj, e⟩
  intro a b r la lb ea el eb
  have pos := (ok.at0 ea (i : Int)).1
  obtain ⟨la0, el0, hle⟩ : ∃ la0, L[a]? = some la0 ∧ W r la0 ≤ W r la := by
    rcases get a la el with ⟨rfl, rfl⟩ | ⟨hj, e⟩
    · exact ⟨lf, hf, by rw [W_snoc]; omega⟩
    · exact ⟨la, e, Int.le_refl _⟩
  rw [butAt_iff]
  rcases get b lb eb with ⟨rfl, rfl⟩ | ⟨hj, e⟩
  · right
    have h1 := free a r la0 ea el0
    have hne : (lf ++ [(i : Int)]).map (PM.at0 r) ≠ [] := by simp
    have h2 := (mx_mem hne).2 (PM.at0 r (i : Int)) (by simp)
    rw [W_snoc]
    omega
  · rcases butAt_iff.mp (h a b r la0 lb ea el0 e) with z | z
    · exact .inl z
    · right
      omega
/-! ### lots are passed around -/
theorem passN_out {α : Type} {d : α} {vs : List α} {ring : List Nat} {j : Nat} : ∀ p, (∀ p' < p, ring.getD p' 0 ≠ j) → (passN d vs ring p)[j]? = vs[j]?
  | 0, _ => rfl
  | p + 1, h => by
    unfold passN
    rw [List.getElem?_set_ne (h p (Nat.lt_succ_self p))]
    exact passN_out p fun p' hp => h p' (by omega)
theorem passN_in {α : Type} {d : α} {vs : List α} {ring : List Nat} (nd : ring.Nodup) (hr : ∀ x ∈ ring, x < vs.length) {q x y : Nat} (hx : ring[q]? = some x) (hy : ring[(q + 1) % ring.length]? = some y) : ∀ p, q < p → p ≤ ring.length → (passN d vs ring p)[x]? = vs[y]?
  | 0, h, _ => by omega
  | p + 1, h, hp => by
    unfold passN
    by_cases e : q = p
    · subst e
      have e1 : ring.getD q 0 = x := by rw [List.getD_eq_getElem?_getD, hx]; rfl
      have e2 : ring.getD ((q + 1) % ring.length) 0 = y := by rw [List.getD_eq_getElem?_getD, hy]; rfl
      have hyl : y < vs.length := hr y (List.mem_of_getElem? hy)
      rw [e1, e2, List.getElem?_set_self (by rw [passN_len]; exact hr x (List.mem_of_getElem? hx)), List.getElem?_eq_getElem hyl]
      simp [hyl]
    · have hpl : p < ring.length := by omega
      have hne : ring.getD p 0 ≠ x := fun z => by
        have e1 : ring[p]? = some x := by
          rw [List.getElem?_eq_getElem hpl]
          have : ring.getD p 0 = ring[p] := by simp [hpl]
          rw [← z, this]
        exact e (nd_ix nd hx e1)
      rw [List.getElem?_set_ne hne]
      exact passN_in nd hr hx hy p (by omega) (by omega)
/-- whose lot one has behind the passing -/
structure Passing (L L' : List (List Int)) (π : Nat → Nat) (n : Nat) : Prop where
  len : L.length = n
  len' : L'.length = n
  get : ∀ j, j < n → π j < n ∧ L'[j]? = L[π j]?
  inj : ∀ j j', j < n → j' < n → π j = π j' → j = j'
  sur : ∀ j, j < n → ∃ j', j' < n ∧ π j' = j
theorem Passing.lots {L L' : List (List Int)} {π : Nat → Nat} {n i : Nat} (p : Passing L L' π n) (h : LotInv L n i) : LotInv L' n i := by
  have gt : ∀ (j : Nat) (l : List Int), L'[j]? = some l → j < n ∧ L[π j]? = some l := fun j l e => by
    have hj : j < n := by
      have := (List.getElem?_eq_some_iff.mp e).1
      rwa [p.len'] at this
    exact ⟨hj, by rw [← (p.get j hj).2]; exact e⟩
  refine ⟨p.len', fun j l e => h.one _ _ (gt j l e).2, fun t h0 h1 => ?_, fun j j' l l' t e e' ht ht' => ?_⟩
  · obtain ⟨j, l, e, hm⟩ := h.all t h0 h1
    have hj : j < n := by
      have := (List.getElem?_eq_some_iff.mp e).1
      rwa [p.len] at this
    obtain ⟨j', hj', e2⟩ := p.sur j hj
    exact ⟨j', l, by rw [(p.get j' hj').2, e2]; exact e, hm⟩
  · obtain ⟨h1, e1⟩ := gt j l e
    obtain ⟨h2, e2⟩ := gt j' l' e'
    exact p.inj j j' h1 h2 (h.apart _ _ _ _ t e1 e2 ht ht')
theorem Passing.ef1 {R L L' : List (List Int)} {π : Nat → Nat} {n : Nat} (p : Passing L L' π n) (h : Ef1 R L) (hR : R.length = n) (up : ∀ (a : Nat) (r la la' : List Int), R[a]? = some r → L[a]? = some la → L'[a]? = some la' → W r la ≤ W r la') : Ef1 R L' := by
  intro a b r la lb ea el eb
  have ha : a < n := by rw [← hR]; exact (List.getElem?_eq_some_iff.mp ea).1
  have hb : b < n := by rw [← p.len']; exact (List.getElem?_eq_some_iff.mp eb).1
  obtain ⟨hb1, hb2⟩ := p.get b hb
  rw [hb2] at eb
  obtain ⟨la0, el0⟩ : ∃ la0, L[a]? = some la0 := ⟨_, List.getElem?_eq_getElem (by rw [p.len]; exact ha)⟩
  have u := up a r la0 la ea el0 el
  rw [butAt_iff]
  rcases butAt_iff.mp (h a (π b) r la0 lb ea el0 eb) with z | z
  · exact .inl z
  · right
    omega
theorem envier_some {R L : List (List Int)} {y x : Nat} (h : envier R L y = some x) : x < R.length ∧ envy R L x y = true := by
  unfold envier at h
  have hm : x ∈ (List.range R.length).filter fun other => envy R L other y := List.mem_of_mem_head? h
  obtain ⟨h1, h2⟩ := List.mem_filter.mp hm
  exact ⟨List.mem_range.mp h1, h2⟩
theorem envier_none {R L : List (List Int)} {y : Nat} (h : envier R L y = none) : ∀ x, x < R.length → envy R L x y = false := by
  intro x hx
  unfold envier at h
  rw [List.head?_eq_none_iff, List.filter_eq_nil_iff] at h
  simpa using h x (List.mem_range.mpr hx)
theorem ring_pass {R L : List (List Int)} {n : Nat} {bs ring : List Nat} (hR : R.length = n) (hL : L.length = n) (hb : backs R L = bs.map some) (ro : RingOk bs ring) :
    ∃ π, Passing L (passN [] L ring ring.length) π n ∧ (∀ (a : Nat) (r la la' : List Int), R[a]? = some r → L[a]? = some la → (passN [] L ring ring.length)[a]? = some la' → W r la ≤ W r la') ∧
      ∃ (a : Nat) (r la la' : List Int), R[a]? = some r ∧ L[a]? = some la ∧ (passN [] L ring ring.length)[a]? = some la' ∧ W r la < W r la' := by
  have hbl : bs.length = n := by
    have := congrArg List.length hb
    simp [backs] at this
    omega
  have hlt : ∀ x ∈ ring, x < n := fun x hx => by rw [← hbl]; exact ro.lt x hx
  have hltL : ∀ x ∈ ring, x < L.length := fun x hx => by rw [hL]; exact hlt x hx
  have hpos : 0 < ring.length := by
    cases hq : ring with
    | nil => exact absurd hq ro.ne
    | cons _ _ => exact Nat.succ_pos _
  -- who envies whom along the ring
  have better : ∀ (q x y : Nat) (r lx ly : List Int), ring[q]? = some x → ring[(q + 1) % ring.length]? = some y → R[x]? = some r → L[x]? = some lx → L[y]? = some ly → W r lx < W r ly := fun q x y r lx ly ex ey er el1 el2 => by
    obtain ⟨x', y', f1, f2, f3⟩ := ro.nx q (List.getElem?_eq_some_iff.mp ex).1
    rw [ex] at f1
    rw [ey] at f2
    cases f1
    cases f2
    have hy : y < n := hlt y (List.mem_of_getElem? ey)
    have e1 : (backs R L)[y]? = some (some x) := by rw [hb, List.getElem?_map, f3]; rfl
    have e2 : envier R L y = some x := by
      unfold backs at e1
      rw [List.getElem?_map] at e1
      simp [show y < R.length by omega] at e1
      exact e1
    have e3 := (envier_some e2).2
    unfold envy at e3
    have e4 := of_decide_eq_true e3
    rw [List.getD_eq_getElem?_getD, List.getD_eq_getElem?_getD, List.getD_eq_getElem?_getD, er, el1, el2] at e4
    exact e4
  -- π
  let π : Nat → Nat := fun j => if j ∈ ring then ring.getD ((ring.idxOf j + 1) % ring.length) 0 else j
  have ixg : ∀ j, j ∈ ring → ring[ring.idxOf j]? = some j := fun j hj => by
    have hl := List.idxOf_lt_length_iff.mpr hj
    rw [List.getElem?_eq_getElem hl, List.getElem_idxOf hl]
  have nxt : ∀ j, j ∈ ring → ring[(ring.idxOf j + 1) % ring.length]? = some (π j) := fun j hj => by
    have hm : (ring.idxOf j + 1) % ring.length < ring.length := Nat.mod_lt _ hpos
    show _ = some (if j ∈ ring then ring.getD ((ring.idxOf j + 1) % ring.length) 0 else j)
    rw [if_pos hj, List.getElem?_eq_getElem hm]
    simp [hm]
  have out : ∀ j, j ∉ ring → π j = j := fun j hj => if_neg hj
  have inr : ∀ j, j ∈ ring → π j ∈ ring := fun j hj => List.mem_of_getElem? (nxt j hj)
  have outg : ∀ j, j ∉ ring → (passN [] L ring ring.length)[j]? = L[j]? := fun j hj => passN_out _ fun p' hp z => by
    have : ring.getD p' 0 = ring[p'] := by simp [hp]
    rw [this] at z
    exact hj (z ▸ List.getElem_mem hp)
  have ing : ∀ j, j ∈ ring → (passN [] L ring ring.length)[j]? = L[π j]? := fun j hj => passN_in ro.nd hltL (ixg j hj) (nxt j hj) _ (List.idxOf_lt_length_iff.mpr hj) (Nat.le_refl _)
  refine ⟨π, ⟨hL, by rw [passN_len]; exact hL, fun j hj => ?_, fun j j' hj hj' e => ?_, fun j hj => ?_⟩, fun a r la la' er el el' => ?_, ?_⟩
  · by_cases hm : j ∈ ring
    · exact ⟨hlt _ (inr j hm), ing j hm⟩
    · rw [out j hm]
      exact ⟨hj, outg j hm⟩
  · by_cases h1 : j ∈ ring <;> by_cases h2 : j' ∈ ring
    · have n1 := nxt j h1
      have n2 := nxt j' h2
      rw [e] at n1
      have e2 := nd_ix ro.nd n1 n2
      have l1 := List.idxOf_lt_length_iff.mpr h1
      have l2 := List.idxOf_lt_length_iff.mpr h2
      have e3 : ring.idxOf j = ring.idxOf j' := by
        by_cases a1 : ring.idxOf j + 1 < ring.length <;> by_cases a2 : ring.idxOf j' + 1 < ring.length
        · rw [Nat.mod_eq_of_lt a1, Nat.mod_eq_of_lt a2] at e2
          omega
        · rw [Nat.mod_eq_of_lt a1, show ring.idxOf j' + 1 = ring.length by omega, Nat.mod_self] at e2
          omega
        · rw [Nat.mod_eq_of_lt a2, show ring.idxOf j + 1 = ring.length by omega, Nat.mod_self] at e2
          omega
        · omega
      have i1 := ixg j h1
      rw [e3, ixg j' h2] at i1
      exact (Option.some.inj i1).symm
    · rw [out j' h2] at e
      exact absurd (e ▸ inr j h1) h2
    · rw [out j h1] at e
      exact absurd (e ▸ inr j' h2) h1
    · rw [out j h1, out j' h2] at e
      exact e
  · by_cases hm : j ∈ ring
    · have hi := List.idxOf_lt_length_iff.mpr hm
      have hp : (ring.idxOf j + ring.length - 1) % ring.length < ring.length := Nat.mod_lt _ hpos
      refine ⟨ring[(ring.idxOf j + ring.length - 1) % ring.length], hlt _ (List.getElem_mem hp), ?_⟩
      have hmem : ring[(ring.idxOf j + ring.length - 1) % ring.length] ∈ ring := List.getElem_mem hp
      have n1 := nxt _ hmem
      have ei : ring.idxOf ring[(ring.idxOf j + ring.length - 1) % ring.length] = (ring.idxOf j + ring.length - 1) % ring.length := nd_ix ro.nd (ixg _ hmem) (List.getElem?_eq_getElem hp)
      rw [ei] at n1
      have em : ((ring.idxOf j + ring.length - 1) % ring.length + 1) % ring.length = ring.idxOf j := by
        rw [Nat.mod_add_mod, show ring.idxOf j + ring.length - 1 + 1 = ring.idxOf j + ring.length by omega, Nat.add_mod_right, Nat.mod_eq_of_lt hi]
      rw [em, ixg j hm] at n1
      exact (Option.some.inj n1).symm
    · exact ⟨j, hj, out j hm⟩
  · by_cases hm : a ∈ ring
    · rw [ing a hm] at el'
      exact Int.le_of_lt (better _ a (π a) r la la' (ixg a hm) (nxt a hm) er el el')
    · rw [outg a hm, el] at el'
      cases el'
      exact Int.le_refl _
  · have hm : ring[0] ∈ ring := List.getElem_mem hpos
    have ha : ring[0] < n := hlt _ hm
    have hb' : π ring[0] < n := hlt _ (inr _ hm)
    refine ⟨ring[0], R[ring[0]]'(by omega), L[ring[0]]'(by omega), L[π ring[0]]'(by omega), List.getElem?_eq_getElem _, List.getElem?_eq_getElem _, by rw [ing _ hm]; exact List.getElem?_eq_getElem _, ?_⟩
    exact better _ ring[0] (π ring[0]) _ _ _ (ixg _ hm) (nxt _ hm) (List.getElem?_eq_getElem _) (List.getElem?_eq_getElem _) (List.getElem?_eq_getElem _)
end PM
namespace PM
open PySem PySem.Spec PyProof.Rows L2 GenW
/-! ### the measure -/
theorem nodup_ltI {i : Nat} {l : List Int} (nd : l.Nodup) (h : ∀ t ∈ l, 0 ≤ t ∧ t < i) : l.length ≤ i := by
  have h1 : (l.map Int.toNat).Nodup := by
    rw [List.nodup_iff_pairwise_ne, List.pairwise_map]
    refine (List.Pairwise.imp_of_mem (fun {a b} ha hb hab => ?_) (List.nodup_iff_pairwise_ne.mp nd))
    have := h a ha
    have := h b hb
    omega
  have := nodup_lt h1 (n := i) fun x hx => by
    obtain ⟨t, ht, rfl⟩ := List.mem_map.mp hx
    have := h t ht
    omega
  simpa using this
theorem W_le {R : List (List Int)} {n m a : Nat} {r l : List Int} (ok : RowsOk R n m) (hr : R[a]? = some r) : W r l ≤ 5 * l.length ∧ 0 ≤ W r l := by
  induction l with
  | nil => simp [W]
  | cons t l ih =>
    have := ok.at0 hr t
    have e : W r (t :: l) = at0 r t + W r l := by simp [W]
    rw [e, List.length_cons]
    omega
def sumW (R L : List (List Int)) (n : Nat) : Int := ((List.range n).map fun a => W (R.getD a []) (L.getD a [])).sum
theorem sum_le {f g : Nat → Int} : ∀ l : List Nat, (∀ a ∈ l, f a ≤ g a) → (l.map f).sum ≤ (l.map g).sum
  | [], _ => Int.le_refl _
  | x :: l, h => by
    have := sum_le l fun a ha => h a (List.mem_cons_of_mem _ ha)
    have := h x List.mem_cons_self
    simp only [List.map_cons, List.sum_cons]
    omega
theorem sum_lt {f g : Nat → Int} : ∀ l : List Nat, (∀ a ∈ l, f a ≤ g a) → (∃ a ∈ l, f a < g a) → (l.map f).sum < (l.map g).sum
  | [], _, ⟨a, ha, _⟩ => absurd ha (by simp)
  | x :: l, h, ⟨a, ha, hl⟩ => by
    have h1 := h x List.mem_cons_self
    have h2 := sum_le l fun a ha => h a (List.mem_cons_of_mem _ ha)
    simp only [List.map_cons, List.sum_cons]
    rcases List.mem_cons.mp ha with e | e
    · subst e
      omega
    · have := sum_lt l (fun a ha => h a (List.mem_cons_of_mem _ ha)) ⟨a, e, hl⟩
      omega
theorem sum_const (l : List Nat) (c : Int) : (l.map fun _ => c).sum = c * l.length := by
  induction l with
  | nil => simp
  | cons x l ih =>
    simp only [List.map_cons, List.sum_cons, ih, List.length_cons]
    rw [show ((l.length + 1 : Nat) : Int) = (l.length : Int) + 1 by omega, Int.mul_add]
    omega
theorem getD_some {R : List (List Int)} {a : Nat} {r : List Int} (h : R[a]? = some r) : R.getD a [] = r := by rw [List.getD_eq_getElem?_getD, h]; rfl
/-- how much better it can get -/
def gap (R L : List (List Int)) (n i : Nat) : Nat := (5 * (i : Int) * n - sumW R L n).toNat
theorem sumW_le {R L : List (List Int)} {n m i : Nat} (ok : RowsOk R n m) (h : LotInv L n i) : sumW R L n ≤ 5 * (i : Int) * n := by
  have := sum_le (f := fun a => W (R.getD a []) (L.getD a [])) (g := fun _ => 5 * (i : Int)) (List.range n) fun a ha => by
    have ha := List.mem_range.mp ha
    have er : R[a]? = some R[a]! := by simp [show a < R.length by rw [ok.len]; exact ha]
    have el : L[a]? = some L[a]! := by simp [show a < L.length by rw [h.len]; exact ha]
    rw [getD_some er, getD_some el]
    obtain ⟨n1, n2⟩ := h.one a _ el
    have := nodup_ltI n1 n2
    have := (W_le (l := L[a]!) ok er).1
    omega
  rw [sum_const] at this
  simpa [sumW] using this
theorem gap_lt {R L L' : List (List Int)} {n m i : Nat} (ok : RowsOk R n m) (h : LotInv L n i) (h' : LotInv L' n i) (up : ∀ (a : Nat) (r la la' : List Int), R[a]? = some r → L[a]? = some la → L'[a]? = some la' → W r la ≤ W r la')
    (st : ∃ (a : Nat) (r la la' : List Int), R[a]? = some r ∧ L[a]? = some la ∧ L'[a]? = some la' ∧ W r la < W r la') : gap R L' n i < gap R L n i := by
  have h1 : sumW R L n < sumW R L' n := by
    refine sum_lt _ (fun a ha => ?_) ?_
    · have ha := List.mem_range.mp ha
      have er : R[a]? = some R[a]! := by simp [show a < R.length by rw [ok.len]; exact ha]
      have el : L[a]? = some L[a]! := by simp [show a < L.length by rw [h.len]; exact ha]
      have el' : L'[a]? = some L'[a]! := by simp [show a < L'.length by rw [h'.len]; exact ha]
      rw [getD_some er, getD_some el, getD_some el']
      exact up a _ _ _ er el el'
    · obtain ⟨a, r, la, la', er, el, el', hl⟩ := st
      refine ⟨a, List.mem_range.mpr ?_, ?_⟩
      · rw [← ok.len]
        exact (List.getElem?_eq_some_iff.mp er).1
      · rw [getD_some er, getD_some el, getD_some el']
        exact hl
  have := sumW_le ok h'
  unfold gap
  omega
/-! ### what comes of it -/
def upto (m : Nat) : List Int := (List.range m).map fun n : Nat => (n : Int)
structure Given (R Ls : List (List Int)) (n m : Nat) : Prop where
  inv : LotInv Ls n m
  but : butOne R Ls = true
  srt : ∀ l ∈ Ls, l.Pairwise (· ≤ ·)
theorem upto_nodup (m : Nat) : (upto m).Nodup := by
  unfold upto
  rw [List.nodup_iff_pairwise_ne, List.pairwise_map]
  refine List.Pairwise.imp ?_ (List.nodup_iff_pairwise_ne.mp List.nodup_range)
  intro a b hab
  omega
theorem mem_upto {m : Nat} {t : Int} : t ∈ upto m ↔ 0 ≤ t ∧ t < m := by
  unfold upto
  rw [List.mem_map]
  constructor
  · rintro ⟨k, hk, rfl⟩
    have := List.mem_range.mp hk
    omega
  · intro ⟨h0, h1⟩
    exact ⟨t.toNat, List.mem_range.mpr (by omega), by omega⟩
theorem LotInv.flat {L : List (List Int)} {n m : Nat} (h : LotInv L n m) : L.flatten.Perm (upto m) := by
  have nd : L.flatten.Nodup := by
    rw [List.nodup_iff_pairwise_ne, List.pairwise_flatten]
    refine ⟨fun l hl => ?_, ?_⟩
    · obtain ⟨j, hj⟩ := List.mem_iff_getElem?.mp hl
      exact List.nodup_iff_pairwise_ne.mp (h.one j l hj).1
    · rw [List.pairwise_iff_getElem]
      intro i j hi hj hij x hx y hy e
      subst e
      have := h.apart i j _ _ x (List.getElem?_eq_getElem hi) (List.getElem?_eq_getElem hj) hx hy
      omega
  rw [List.perm_ext_iff_of_nodup nd (upto_nodup m)]
  intro t
  rw [mem_upto, List.mem_flatten]
  constructor
  · rintro ⟨l, hl, ht⟩
    obtain ⟨j, hj⟩ := List.mem_iff_getElem?.mp hl
    exact (h.one j l hj).2 t ht
  · intro ⟨h0, h1⟩
    obtain ⟨j, l, e, hm⟩ := h.all t h0 h1
    exact ⟨l, List.mem_of_getElem? e, hm⟩
/-- the lots one by one in another order -/
def Reord (L L' : List (List Int)) : Prop := L'.length = L.length ∧ ∀ (j : Nat) (l l' : List Int), L[j]? = some l → L'[j]? = some l' → l'.Perm l
theorem Reord.get {L L' : List (List Int)} (h : Reord L L') {j : Nat} {l' : List Int} (e : L'[j]? = some l') : ∃ l, L[j]? = some l ∧ l'.Perm l := by
  have hj : j < L.length := by
    rw [← h.1]
    exact (List.getElem?_eq_some_iff.mp e).1
  exact ⟨L[j], List.getElem?_eq_getElem hj, h.2 j _ _ (List.getElem?_eq_getElem hj) e⟩
theorem Reord.inv {L L' : List (List Int)} {n m : Nat} (h : Reord L L') (i : LotInv L n m) : LotInv L' n m := by
  refine ⟨by rw [h.1]; exact i.len, fun j l e => ?_, fun t h0 h1 => ?_, fun j j' l l' t e e' ht ht' => ?_⟩
  · obtain ⟨l0, e0, p⟩ := h.get e
    obtain ⟨n1, n2⟩ := i.one j l0 e0
    exact ⟨p.nodup_iff.mpr n1, fun t ht => n2 t (p.mem_iff.mp ht)⟩
  · obtain ⟨j, l, e, hm⟩ := i.all t h0 h1
    have hj : j < L'.length := by
      rw [h.1]
      exact (List.getElem?_eq_some_iff.mp e).1
    exact ⟨j, L'[j], List.getElem?_eq_getElem hj, (h.2 j l _ e (List.getElem?_eq_getElem hj)).mem_iff.mpr hm⟩
  · obtain ⟨l0, e0, p⟩ := h.get e
    obtain ⟨l1, e1, p'⟩ := h.get e'
    exact i.apart _ _ _ _ t e0 e1 (p.mem_iff.mp ht) (p'.mem_iff.mp ht')
theorem Reord.ef1 {R L L' : List (List Int)} (h : Reord L L') (e : Ef1 R L) : Ef1 R L' := by
  intro a b r la lb ea el eb
  obtain ⟨l0, e0, p⟩ := h.get el
  obtain ⟨l1, e1, p'⟩ := h.get eb
  rw [butAt_perm p p']
  exact e a b r l0 l1 ea e0 e1
theorem Given.of {R L Ls : List (List Int)} {n m : Nat} (hR : R.length = n) (i : LotInv L n m) (e : Ef1 R L) (h : Reord L Ls) (s : ∀ l ∈ Ls, l.Pairwise (· ≤ ·)) : Given R Ls n m :=
  ⟨h.inv i, (butOne_iff (by rw [hR]; exact (h.inv i).len)).mpr (h.ef1 e), s⟩
end PM
namespace PM
open PySem PySem.Spec PyProof.Rows L2 GenW
/-! ### what a list's writing leaves -/
theorem seqT_updL {K : PySem.W.Frag} {H : Hp} {a p : Addr} {xs ys : List V} {o : HO} (h : SqT K H p xs) (ha : H a = some (.lst ys)) : SqT K (upd H a o) p xs := by
  rcases h with (h | ⟨ob, h⟩) | h
  · exact .inl (.inl (by rw [upd_ne (fun z => by rw [z, ha] at h; cases h)]; exact h))
  · exact .inl (.inr ⟨ob, by rw [upd_ne (fun z => by rw [z, ha] at h; cases h)]; exact h⟩)
  · exact .inr h
theorem TupI.updL {K : PySem.W.Frag} {H : Hp} {a : Addr} {v : V} {ns : List Int} {ys : List V} {o : HO} (h : TupI K H v ns) (ha : H a = some (.lst ys)) : TupI K (upd H a o) v ns := by
  obtain ⟨p, rfl, h⟩ := h
  exact ⟨p, rfl, seqT_updL h ha⟩
theorem TupsI.updL {K : PySem.W.Frag} {H : Hp} {a : Addr} {vs : List V} {R : List (List Int)} {ys : List V} {o : HO} (h : TupsI K H vs R) (ha : H a = some (.lst ys)) : TupsI K (upd H a o) vs R := ⟨h.1, fun i v r e1 e2 => (h.2 i v r e1 e2).updL ha⟩
theorem ext_write {H0 H : Hp} {a : Addr} {o : HO} (e : Ext H0 H) (n : H0 a = none) : Ext H0 (upd H a o) := fun b u h hn => by
  rw [upd_ne (fun z => by rw [z, n] at h; cases h)]
  exact e b u h hn
/-- new, as far as no table is asked -/
def Fr (H : Hp) (a : Addr) : Prop := ∀ o, H a = some o → ∃ ps, o = .tbl ps
theorem fr_of {H0 H : Hp} {a : Addr} (e : Ext H0 H) (n : H a = none) : Fr H0 a := fun o h => Classical.byContradiction fun hn => by
  have := e a o h fun ps z => hn ⟨ps, z⟩
  rw [n] at this
  cases this
theorem ext_writeF {H0 H : Hp} {a : Addr} {o : HO} (e : Ext H0 H) (f : Fr H0 a) : Ext H0 (upd H a o) := fun b u h hn => by
  rw [upd_ne (fun z => by
    rw [z] at h
    obtain ⟨ps, e⟩ := f u h
    exact hn ps e)]
  exact e b u h hn
theorem dpTups {K : PySem.W.Frag} {H : Hp} : ∀ (vs : List V) (R : List (List Int)), TupsI K H vs R → DpAll K H vs (R.map fun r => PyData.tuple (r.map PyData.int))
  | [], [], _ => .nil
  | [], r :: R, h => by have := h.1; simp at this
  | v :: vs, [], h => by have := h.1; simp at this
  | v :: vs, r :: R, h => .cons (h.2 0 v r rfl rfl).dp (dpTups vs R ⟨by simpa using h.1, fun i v' r' a b => h.2 (i + 1) v' r' a b⟩)
theorem shapedTups (R : List (List Int)) : SeqAt.shaped (.list (R.map fun r => PyData.tuple (r.map PyData.int))) = true := by
  have h0 : ∀ ns : List Int, PyData.canLayAll0 (ns.map PyData.int) = true := fun ns => by
    induction ns with
    | nil => simp [PyData.canLayAll0]
    | cons a r ih => simp [PyData.canLayAll0, PyData.canLay0, ih]
  have h1 : ∀ R : List (List Int), PyData.canLayAll0 (R.map fun r => PyData.tuple (r.map PyData.int)) = true := fun R => by
    induction R with
    | nil => simp [PyData.canLayAll0]
    | cons a r ih => simp [PyData.canLayAll0, PyData.canLay0, ih, h0]
  have h2 : ∀ R : List (List Int), PyData.depthAll (R.map fun r => PyData.tuple (r.map PyData.int)) ≤ 2 := fun R => by
    induction R with
    | nil => simp [PyData.depthAll]
    | cons a r ih =>
      have := intsDepth a
      simp only [List.map_cons, PyData.depthAll, PyData.depth]
      omega
  have := h2 R
  show ((PyData.canLay0 (.list (R.map fun r => PyData.tuple (r.map PyData.int)))) && decide (PyData.depth (.list (R.map fun r => PyData.tuple (r.map PyData.int))) ≤ 64)) = true
  rw [Bool.and_eq_true]
  refine ⟨by simp only [PyData.canLay0]; exact h1 R, decide_eq_true ?_⟩
  simp only [PyData.depth]
  omega
theorem optV_flat (l : List (Option Nat)) : (l.map optV).all flatV = true := by
  rw [List.all_eq_true]
  intro x hx
  obtain ⟨o, _, rfl⟩ := List.mem_map.mp hx
  cases o <;> rfl
theorem inV_none (l : List (Option Nat)) : inV .non (l.map optV) = decide (none ∈ l) := by
  rw [Bool.eq_iff_iff, decide_eq_true_iff]
  unfold inV
  rw [List.any_eq_true]
  constructor
  · rintro ⟨x, hx, e⟩
    obtain ⟨o, ho, rfl⟩ := List.mem_map.mp hx
    cases o with
    | none => exact ho
    | some n => exact absurd (show false = true from e) Bool.false_ne_true
  · intro h
    exact ⟨.non, List.mem_map.mpr ⟨none, h, rfl⟩, rfl⟩
theorem all_some : ∀ {l : List (Option Nat)}, none ∉ l → ∃ bs : List Nat, l = bs.map some
  | [], _ => ⟨[], rfl⟩
  | none :: l, h => absurd List.mem_cons_self h
  | some n :: l, h => by
    obtain ⟨bs, e⟩ := all_some (l := l) fun z => h (List.mem_cons_of_mem _ z)
    exact ⟨n :: bs, by rw [e]; rfl⟩
theorem first_none : ∀ {l : List (Option Nat)}, none ∈ l → ∃ j : Nat, l[j]? = some none ∧ ∀ m, m < j → ∃ n, l[m]? = some (some n)
  | none :: l, _ => ⟨0, rfl, fun m h => absurd h (Nat.not_lt_zero _)⟩
  | some n :: l, h => by
    obtain ⟨j, h1, h2⟩ := first_none (l := l) (by simpa using h)
    refine ⟨j + 1, h1, fun m hm => ?_⟩
    cases m with
    | zero => exact ⟨n, rfl⟩
    | succ m => exact h2 m (by omega)
abbrev sShare : Stmt := topS 20
theorem scShare : FnScope ["rows", "worths", "lots", "thing", "backs", "free", "lot"] ["rows"] (defScope sShare) := ⟨rfl, rfl, rfl, by decide +kernel, rfl, by decide +kernel, by decide +kernel⟩
theorem rep_tups {K : PySem.W.Frag} {H : Hp} {v : V} {r : List Int} (h : TupI K H v r) (n : Nat) : TupsI K H (List.replicate n v) (List.replicate n r) := by
  refine ⟨by simp, fun i v' r' a b => ?_⟩
  have e1 := List.eq_of_mem_replicate (List.mem_of_getElem? a)
  have e2 := List.eq_of_mem_replicate (List.mem_of_getElem? b)
  subst e1
  subst e2
  exact h
theorem rep_flat {α : Type} (n : Nat) (v : α) : (List.replicate n [v]).flatten = List.replicate n v := by
  induction n with
  | zero => rfl
  | succ n ih => rw [List.replicate_succ, List.flatten_cons, ih]; rfl
section
variable {P : Program} {w : World} {K : PySem.W.Frag} {mg : Str → Option Value} {base : Heap} {T : List (Addr × Str)}
def spShare (K : PySem.W.Frag) (T : List (Addr × Str)) (C : Addr) : Sp := fun vs H Q E => ∃ (a : Addr) (R : List (List Int)), vs = [.ref a] ∧ LofT K H a R ∧ R.length ≤ 1000 ∧ (∀ r ∈ R, r.length ≤ 1000) ∧ Tabs T H ∧
  ((∃ n m, 0 < n ∧ RowsOk R n m ∧ ∀ (Ls : List (List Int)) (H' : Hp) (p : Addr), Given R Ls n m → Fr H p → Ext H H' → Tabs T H' → TofT K H' p Ls → Q (.ref p) H') ∨
  (badRows R = true ∧ ∀ H', Tabs T H' → E (.ref C) none H'))
theorem RowsOk.good {R : List (List Int)} {n m : Nat} (h : RowsOk R n m) : badRows R = false := by
  unfold badRows
  rw [List.any_eq_false]
  intro r hr
  obtain ⟨h1, h2⟩ := h.row r hr
  unfold badRow
  have hl : 0 < R.length := List.length_pos_of_mem hr
  have e : R.getD 0 [] = R[0] := getD_at hl
  rw [e, Bool.or_eq_true, not_or]
  refine ⟨by simp [h1, (h.row _ (List.getElem_mem hl)).1], ?_⟩
  rw [List.any_eq_true]
  rintro ⟨x, hx, hd⟩
  have := h2 x hx
  have := of_decide_eq_true hd
  omega
theorem LotInv.fits {R L : List (List Int)} {n m i : Nat} (ok : RowsOk R n m) (h : LotInv L n i) (hi : i ≤ m) : Fits R L m := by
  refine ⟨fun r hr => (ok.row r hr).1, fun l hl t ht => ?_, by rw [h.len, ok.len]⟩
  obtain ⟨j, hj⟩ := List.mem_iff_getElem?.mp hl
  have := (h.one j l hj).2 t ht
  omega
end
end PM
namespace PM
open PySem PySem.Spec PyProof.Rows L2 GenW
section
variable {P : Program} {w : World} {K : PySem.W.Frag} {mg : Str → Option Value} {base : Heap} {T : List (Addr × Str)}
theorem ok_share {f C fC fE fP fR : Addr} {fd fdC fdE fdP fdR : FuncData} {k : Nat} (F : Fun K "share" "share" sShare f fd) (mr : mg "range" = none) (ml : mg "len" = none) (mt : mg "tuple" = none) (ms : mg "sorted" = none)
    (FC : Fun K "check_rows" "check_rows" sCheck fC fdC) (bC : Binds K fdC ["rows"] []) (gC : mg "check_rows" = some (.ref fC)) (GC : FnOk P w K mg base (L2.CX P w) (k + 11) fC fdC ["rows"] (spCheck K T C))
    (FE : Fun K "enviers" "enviers" sEnviers fE fdE) (bE : Binds K fdE ["rows", "lots"] []) (gE : mg "enviers" = some (.ref fE)) (GE : FnOk P w K mg base CX0 (k + 6) fE fdE ["rows", "lots"] (spEnviers K T))
    (FP : Fun K "passed" "passed" sPassed fP fdP) (bP : Binds K fdP ["lots", "ring"] []) (gP : mg "passed" = some (.ref fP)) (GP : FnOk P w K mg base CX0 (k + 1) fP fdP ["lots", "ring"] (spPassed K))
    (FR : Fun K "ring_of" "ring_of" sRing fR fdR) (bR : Binds K fdR ["backs"] []) (gR : mg "ring_of" = some (.ref fR)) (GR : FnOk P w K mg base CX0 (k + 1) fR fdR ["backs"] (spRing K)) :
    FnOk P w K mg base (L2.CX P w) (k + 12) f fd ["rows"] (spShare K T C) := by
  refine okCX F scShare (fun vs H Q E h => ?_) (fun cdv hcd A outer s H vs Q E hr h => ?_)
  · obtain ⟨a, R, rfl, _⟩ := h
    rfl
  · obtain ⟨a, R, rfl, hRR, hn1, hw1, hT, h⟩ := h
    have hr6 : Room (k + 6) (A.deeper (envOfC "share" (defScope sShare) s.heap.objs.size f cdv)) := hr.mono (by omega)
    have hr1 : Room (k + 1) (A.deeper (envOfC "share" (defScope sShare) s.heap.objs.size f cdv)) := hr.mono (by omega)
    refine ⟨_, pss_cons (ps_set (i := 1) scShare.nd rfl (Or.inl rfl) (pe_call GC hr (by rfl) gC FC.kp bC .nil (E := E) (passes_call (takes_of rfl rfl rfl rfl) (fun _ _ _ _ h => h)) (pa_cons (pv 0) pa_nil)))
      (PSs.nox (pss_cons (ps_set (i := 2) scShare.nd rfl (Or.inl rfl) (pe_op op_rep (pe_lst (pa_cons (pe_tup pa_nil) pa_nil)) (pe_callB (cr_len rfl) (by rfl) ml PySem.boot_len (pa_cons (pv 1) pa_nil))))
      (pss_cons (ps_for PassesOwn.never rfl (pi_range1 (by rfl) mr (pa_cons (pe_ifExp (pt_cmpR (op_neD hr.units) (pv 1) (pe_lst pa_nil) (nomark _)) (pe_callB (cr_len rfl) (by rfl) ml PySem.boot_len (pa_cons (pe_ix ix_list (pv 1) pe_int (fun _ _ => rfl)) pa_nil)) pe_int) pa_nil)) (pg_name (i := 3) scShare.nd rfl (.inl rfl))
        (pss_cons (ps_set (i := 4) scShare.nd rfl (Or.inl rfl) (pe_call GE hr6 (by rfl) gE FE.kp bE .nil pass0 (pa_cons (pv 1) (pa_cons (pv 2) pa_nil))))
        (pss_cons (ps_while PassesOwn.never (pt_cmpR op_notIn_seq pe_non (pv 4) (by rfl))
          (pss_cons (ps_set (i := 2) scShare.nd rfl (Or.inl rfl) (pe_call GP hr1 (by rfl) gP FP.kp bP .nil pass0 (pa_cons (pv 2) (pa_cons (pe_call GR hr1 (by rfl) gR FR.kp bR .nil pass0 (pa_cons (pv 4) pa_nil)) pa_nil))))
          (pss_one (ps_set (i := 4) scShare.nd rfl (Or.inl rfl) (pe_call GE hr6 (by rfl) gE FE.kp bE .nil pass0 (pa_cons (pv 1) (pa_cons (pv 2) pa_nil)))))))
        (pss_cons (ps_set (i := 5) scShare.nd rfl (Or.inl rfl) (pe_bm PySem.F.plainAttrs_list PySem.F.slot_list_index PySem.F.type_list_index mt_index (pv 4) (pa_cons pe_non pa_nil)))
        (pss_one (ps_asg (pe_op op_catA (pe_ix ix_list (pv 2) (pv 5) (fun _ _ => rfl)) (pe_tup (pa_cons (pv 3) pa_nil))) (pg_sub (pv 2) (pv 5) set_list)))))))
      (pss_one (ps_ret (pe_callTy call_tuple_of (by rfl) mt (by decide +kernel) (pa_cons (pe_lc (own := [("lot", 6)]) (g := gName 6) (tt := tYes) rfl scShare.nd (pi_list (pv 2)) (blkOk_by (N := ["rows", "worths", "lots", "thing", "backs", "free", "lot"]) (sc := defScope sShare) (by decide +kernel)) (fun _ _ _ _ _ => pg_name (i := 6) scShare.nd rfl (Or.inl rfl)) (fun _ _ _ _ _ => pts_nil)
          (fun _ _ _ _ _ => pe_callTy (r := fun xs H Q => ∃ p ys, xs = [.ref p] ∧ ((SqL K H p ys ∧ ∀ l, H l = none → Q (.ref l) (upd H l (.tup ys))) ∨ (SqT K H p ys ∧ Q (.ref p) H))) call_tuple_of (by rfl) mt (by decide +kernel) (pa_cons (pe_callB (r := rSortedTI K) cr_sortedTI (by rfl) ms (by decide +kernel) (pa_cons (pv 6) pa_nil)) pa_nil))) pa_nil))))))), ?_⟩
    refine ⟨.ref a, rfl, a, R, rfl, hRR, hn1, hw1, hT, fun good vw H0 wa tw nwa x0 t0 w0 => ?_, fun bad H' tb => ?_⟩
    case refine_2 =>
      rcases h with ⟨n, m, hpos, ok, q⟩ | ⟨_, q⟩
      · rw [ok.good] at bad
        cases bad
      · exact q H' tb
    rcases h with ⟨n, m, hpos, ok, q⟩ | ⟨bad, _⟩
    case inr =>
      rw [good] at bad
      cases bad
    have hwl : vw.length = n := by rw [tw.1, ok.len]
    have hn : n ≤ 1000 := by rw [← ok.len]; exact hn1
    have hLR : ∀ {H'}, Ext H0 H' → LofT K H' wa R := fun {H'} e => ⟨vw, SqL.of (e.lst w0), tw.ext e⟩
    have hm : m ≤ 1000 := by
      have h0 : 0 < R.length := by rw [ok.len]; exact hpos
      have e1 := (ok.row _ (List.getElem_mem h0)).1
      have e2 := hw1 _ (List.getElem_mem h0)
      omega
    -- lots = [()] * len(worths)
    refine ⟨Nat.zero_le _, fun pe hpe => ⟨by show 1 ≤ sizeLine; decide, fun pl hpl => ?_⟩⟩
    obtain ⟨H1, eH1⟩ : ∃ H1, H1 = upd (upd H0 pe (.tup [])) pl (.lst [.ref pe]) := ⟨_, rfl⟩
    rw [← eH1]
    have x1 : Ext H0 H1 := by rw [eH1]; exact (Ext.new hpe).trans (Ext.new hpl)
    have t1 : Tabs T H1 := by rw [eH1]; exact (t0.same (Same.new hpe)).same (Same.new hpl)
    have l1 : H1 pl = some (.lst [.ref pe]) := by rw [eH1, upd_same]
    have nple : pe ≠ pl := fun z => by rw [← z, upd_same] at hpl; cases hpl
    have e1 : H1 pe = some (.tup []) := by rw [eH1, upd_ne nple, upd_same]
    have tupe : TupI K H1 (.ref pe) [] := ⟨pe, rfl, SqT.of e1⟩
    refine ⟨.ref wa, rfl, wa, vw, rfl, .inl (SqL.of (x1.lst w0)), pl, _, _, rfl, rfl, l1, by omega, by omega, ?_, fun la hla => ?_⟩
    · simp only [List.length_cons, List.length_nil, Int.toNat_natCast]
      have := small1000 (n := vw.length) (by omega)
      omega
    have erep : (List.replicate ((vw.length : Nat) : Int).toNat [V.ref pe]).flatten = List.replicate n (V.ref pe) := by
      rw [Int.toNat_natCast, hwl, rep_flat]
    rw [erep]
    have f0la : Fr H0 la := fr_of x1 hla
    have tl0 : TupsI K (upd H1 la (.lst (List.replicate n (V.ref pe)))) (List.replicate n (V.ref pe)) (List.replicate n []) := (rep_tups tupe n).ext (Ext.new hla)
    -- the range's end
    have hv0 : ∃ v0, vw[0]? = some v0 ∧ TupI K H0 v0 R[0]! := by
      have h0 : 0 < R.length := by rw [ok.len]; exact hpos
      obtain ⟨v, e, t⟩ := tw.get h0
      exact ⟨v, e, by simpa [h0] using t⟩
    obtain ⟨v0, ev0, tv0⟩ := hv0
    have hr0 : R[0]!.length = m := by
      have h0 : 0 < R.length := by rw [ok.len]; exact hpos
      have := (ok.row _ (List.getElem_mem h0)).1
      simpa [h0] using this
    refine ⟨.ref wa, rfl, Nat.zero_le _, fun pe2 hpe2 => ?_⟩
    obtain ⟨H2, eH2⟩ : ∃ H2, H2 = upd H1 la (.lst (List.replicate n (V.ref pe))) := ⟨_, rfl⟩
    rw [← eH2] at hpe2 tl0 ⊢
    have x2 : Ext H0 H2 := by rw [eH2]; exact x1.trans (Ext.new hla)
    have t2 : Tabs T H2 := by rw [eH2]; exact t1.same (Same.new hla)
    have l2 : H2 la = some (.lst (List.replicate n (V.ref pe))) := by rw [eH2, upd_same]
    have x3 : Ext H2 (upd H2 pe2 (.lst [])) := Ext.new hpe2
    have x23 := x2.trans x3
    refine ⟨_, _, .lst (SqL.of (x23.lst w0)) (dpTups vw R (tw.ext x23)), .lst (SqL.of upd_same) .nil, shapedTups R, by decide +kernel, _, rfl, ?_⟩
    rw [eqv_nilL]
    have hRne : decide (R.map (fun r => PyData.tuple (r.map PyData.int)) = []) = false := decide_eq_false fun z => by
      have := List.map_eq_nil_iff.mp z
      have := ok.len
      simp_all
    rw [hRne]
    refine iteT ?_
    obtain ⟨p0, rfl, hp0⟩ := tv0.ext x23
    refine ⟨.ref wa, rfl, wa, vw, 0, .ref p0, rfl, rfl, SqL.of (x23.lst w0), atI_nat (j := 0) ev0, p0, _, rfl, .inr hp0, _, rfl, ?_⟩
    rw [List.length_map, hr0]
    refine ⟨by omega, by omega, ?_⟩
    have hmm : ((m : Nat) : Int).toNat = m := Int.toNat_natCast m
    rw [hmm]
    -- for thing in range(..)
    refine for_range (lo := 0) (n := m) (fun i σ Hc => ∃ la ls L y3 y4 y5, σ = [some (.ref a), some (.ref wa), some (.ref la), y3, y4, y5, none] ∧ Ext H0 Hc ∧ Tabs T Hc ∧ Fr H0 la ∧ Hc la = some (.lst ls) ∧ TupsI K Hc ls L ∧ LotInv L n i ∧ Ef1 R L)
      ⟨la, _, _, none, none, none, rfl, x23, t2.same (Same.new hpe2), f0la, x3.lst l2, tl0.ext x3, LotInv.start n, Ef1.start R n⟩ (fun i σ Hc hi ⟨la, ls, L, y3, y4, y5, es, xc, tc, fc, lc, tl, inv, ef⟩ => ?_) (fun σ Hc ⟨la, ls, L, y3, y4, y5, es, xc, tc, fc, lc, tl, inv, ef⟩ => ?_)
    · subst es
      rw [Int.zero_add]
      -- backs = enviers(worths, lots)
      refine ⟨.ref wa, rfl, .ref la, rfl, wa, la, R, L, m, rfl, hLR xc, ⟨ls, SqL.of lc, tl⟩, inv.fits ok (by omega), hn1, tc, fun Hd ba hba xd td bd => ?_⟩
      -- while None not in backs
      refine ⟨fun g σ Hc => ∃ la ls L ba y5, σ = [some (.ref a), some (.ref wa), some (.ref la), some (.int (i : Nat)), some (.ref ba), y5, none] ∧ Ext H0 Hc ∧ Tabs T Hc ∧ Fr H0 la ∧ Hc la = some (.lst ls) ∧ TupsI K Hc ls L ∧ LotInv L n i ∧ Ef1 R L ∧ Hc ba = some (.lst ((backs R L).map optV)) ∧ g = gap R L n i,
        ⟨_, la, ls, L, ba, y5, rfl, xc.trans xd, td, fc, xd.lst lc, tl.ext xd, inv, ef, bd, rfl⟩, fun g σ Hc ⟨la, ls, L, ba, y5, es, xc, tc, fc, lc, tl, inv, ef, bc, eg⟩ => ?_⟩
      subst es
      refine ⟨.ref ba, rfl, ba, _, rfl, .inl (SqL.of bc), rfl, optV_flat _, _, rfl, ?_⟩
      show if (!inV .non ((backs R L).map optV)) = true then _ else _
      rw [inV_none]
      have hls : ls.length = n := by rw [tl.1, inv.len]
      by_cases hnone : none ∈ backs R L
      · rw [decide_eq_true hnone]
        refine iteF ?_
        obtain ⟨fr, ef1, ef2⟩ := first_none hnone
        have hfr : fr < R.length := by
          have := (List.getElem?_eq_some_iff.mp ef1).1
          simpa [backs] using this
        have hfrn : fr < n := by rw [← ok.len]; exact hfr
        have efr : envier R L fr = none := by
          unfold backs at ef1
          rw [List.getElem?_map] at ef1
          simpa [hfr] using ef1
        have hfl : fr < L.length := by rw [inv.len]; exact hfrn
        obtain ⟨vf, evf, tvf⟩ := tl.get hfl
        refine ⟨.ref ba, rfl, .inl ⟨rfl, _, SqL.of bc⟩, ba, _, .non, fr, _, rfl, rfl, SqL.of bc, rfl, optV_flat _, by rw [List.getElem?_map, ef1]; rfl, rfl, fun m' z' hm' hz' => ?_, ?_⟩
        · obtain ⟨n', e'⟩ := ef2 m' hm'
          rw [List.getElem?_map, e'] at hz'
          obtain rfl := Option.some.inj hz'
          rfl
        · obtain ⟨pf, rfl, hpf⟩ := id tvf
          refine ⟨.ref la, rfl, .int (fr : Nat), rfl, la, ls, (fr : Nat), .ref pf, rfl, rfl, SqL.of lc, atI_nat evf, .int (i : Nat), rfl, by show 1 ≤ sizeLine; decide, fun p1 hp1 => ?_⟩
          have x5 : Ext Hc (upd Hc p1 (.tup [.int (i : Nat)])) := Ext.new hp1
          have t5 : Tabs T (upd Hc p1 (.tup [.int (i : Nat)])) := tc.same (Same.new hp1)
          have hlen : L[fr].length ≤ 1000 := by
            obtain ⟨n1, n2⟩ := inv.one fr _ (List.getElem?_eq_getElem hfl)
            have := nodup_ltI n1 n2
            omega
          have fin : ∀ (pn : Addr) (H6 : Hp), Ext Hc H6 → Tabs T H6 → SqT K H6 pn ((L[fr] ++ [(i : Int)]).map V.int) →
              ∃ la' ls' L' y3 y4 y5, [some (V.ref a), some (.ref wa), some (.ref la), some (.int (i : Nat)), some (.ref ba), some (.int (fr : Nat)), none] = [some (.ref a), some (.ref wa), some (.ref la'), y3, y4, y5, none] ∧ Ext H0 (upd H6 la (.lst (ls.set fr (.ref pn)))) ∧ Tabs T (upd H6 la (.lst (ls.set fr (.ref pn)))) ∧ Fr H0 la' ∧ upd H6 la (.lst (ls.set fr (.ref pn))) la' = some (.lst ls') ∧ TupsI K (upd H6 la (.lst (ls.set fr (.ref pn)))) ls' L' ∧ LotInv L' n (i + 1) ∧ Ef1 R L' := fun pn H6 x6 t6 hpn => by
            have l6 := x6.lst lc
            refine ⟨la, ls.set fr (.ref pn), L.set fr (L[fr] ++ [(i : Int)]), _, _, _, rfl, ext_writeF (xc.trans x6) fc, t6.lst l6, fc, upd_same, ?_, inv.add (List.getElem?_eq_getElem hfl), ?_⟩
            · exact ((tl.ext x6).set ⟨pn, rfl, hpn⟩ fr).updL l6
            · refine ef.add (n := n) (m := m) ok inv.len (List.getElem?_eq_getElem hfl) fun x r la0 er el => ?_
              have hx := (List.getElem?_eq_some_iff.mp er).1
              have := envier_none efr x hx
              unfold envy at this
              have h2 := of_decide_eq_false this
              rw [getD_some er, getD_some el, getD_at hfl] at h2
              omega
          refine ⟨pf, p1, _, _, rfl, rfl, x5.seqT hpf, SqT.of upd_same, ?_, fun hnil => ?_, fun _ hnil => ?_, fun _ _ p2 hp2 => ?_⟩
          · rw [List.length_map]
            exact Nat.le_of_lt (small1000 (by show L[fr].length + 1 ≤ 1000; have := inv.one fr _ (List.getElem?_eq_getElem hfl); have := nodup_ltI this.1 this.2; omega))
          · have hnil' : L[fr] = [] := List.map_eq_nil_iff.mp hnil
            refine ⟨.ref la, rfl, .int (fr : Nat), rfl, la, ls, _, fr, rfl, rfl, x5.lst lc, ixN_of (by omega), ?_⟩
            exact fin p1 _ x5 t5 (by rw [hnil']; exact SqT.of upd_same)
          · cases hnil
          · have x6 := x5.trans (Ext.new (o := .tup (L[fr].map V.int ++ [.int (i : Nat)])) hp2)
            have t6 := t5.same (Same.new (o := .tup (L[fr].map V.int ++ [.int (i : Nat)])) hp2)
            refine ⟨.ref la, rfl, .int (fr : Nat), rfl, la, ls, _, fr, rfl, rfl, x6.lst lc, ixN_of (by omega), ?_⟩
            exact fin p2 _ x6 t6 (SqT.of (by rw [upd_same, List.map_append]; rfl))
      · rw [decide_eq_false hnone]
        refine iteT ?_
        obtain ⟨bs, ebs⟩ := all_some hnone
        have hbl : bs.length = n := by
          have := congrArg List.length ebs
          simp [backs] at this
          rw [← ok.len]
          omega
        have bnat : (backs R L).map optV = natV bs := by
          rw [ebs]
          unfold natV
          rw [List.map_map]
          rfl
        have hblt : ∀ x ∈ bs, x < bs.length := fun x hx => by
          have h1 : some x ∈ backs R L := by rw [ebs]; exact List.mem_map.mpr ⟨x, hx, rfl⟩
          unfold backs at h1
          obtain ⟨y, _, ey⟩ := List.mem_map.mp h1
          have := (envier_some ey).1
          rw [hbl, ← ok.len]
          exact this
        refine ⟨fun σ' H' => ∃ g' < g, ∃ la ls L ba y5, σ' = [some (.ref a), some (.ref wa), some (.ref la), some (.int (i : Nat)), some (.ref ba), y5, none] ∧ Ext H0 H' ∧ Tabs T H' ∧ Fr H0 la ∧ H' la = some (.lst ls) ∧ TupsI K H' ls L ∧ LotInv L n i ∧ Ef1 R L ∧ H' ba = some (.lst ((backs R L).map optV)) ∧ g' = gap R L n i,
          fun σ' H' ⟨g', hg', rest⟩ => ⟨g', hg', rest⟩, ?_⟩
        refine ⟨.ref la, rfl, .ref ba, rfl, ba, bs, rfl, by rw [← bnat]; exact SqL.of bc, by omega, by omega, hblt, fun ring H6 rp ro hrp s6 e6 => ?_⟩
        have x6 : Ext Hc H6 := Ext.of s6
        refine ⟨la, rp, ls, ring, rfl, SqL.of (x6.lst lc), SqT.of e6, fun x hx => by rw [hls, ← hbl]; exact ro.lt x hx, fun H7 lp hlp s7 e7 => ?_⟩
        have x7 : Ext Hc H7 := x6.trans (Ext.of s7)
        obtain ⟨π, pas, up, st⟩ := ring_pass ok.len inv.len ebs ro
        have rlt : ∀ x ∈ ring, x < L.length := fun x hx => by
          have := ro.lt x hx
          rw [inv.len]
          omega
        have inv' := pas.lots inv
        have ef' := pas.ef1 ef ok.len up
        have tl7 := passN_tups (tl.ext x7) rlt ring.length (Nat.le_refl _)
        have t7 : Tabs T H7 := (tc.same s6).same s7
        refine ⟨.ref wa, rfl, .ref lp, rfl, wa, lp, R, _, m, rfl, hLR (xc.trans x7), ⟨_, SqL.of e7, tl7⟩, inv'.fits ok (by omega), hn1, t7, fun H8 ba' hba' x8 t8 e8 => ?_⟩
        exact ⟨_, by rw [eg]; exact gap_lt ok inv inv' up st, lp, _, _, ba', y5, rfl, (xc.trans x7).trans x8, t8, fr_of (xc.trans x6) hlp, x8.lst e7, tl7.ext x8, inv', ef', e8, rfl⟩
    · subst es
      have hls : ls.length = n := by rw [tl.1, inv.len]
      refine ⟨.ref la, rfl, la, rfl, ⟨_, SqL.of lc⟩, fun D hD => lc_list (xs := ls) (fun j H5 => ∃ acc Ls, Ext Hc H5 ∧ Tabs T H5 ∧ H5 D = some (.lst acc) ∧ TupsI K H5 acc Ls ∧ Ls.length = j ∧ (∀ l ∈ Ls, l.Pairwise (· ≤ ·)) ∧ ∀ (j' : Nat) (l l' : List Int), L[j']? = some l → Ls[j']? = some l' → l'.Perm l)
        ⟨[], [], Ext.new hD, tc.same (Same.new hD), upd_same, TupsI.nil, rfl, fun l hl => absurd hl (by simp), fun j' l l' _ e => by simp at e⟩ (fun j H5 _ ⟨acc, Ls, x5, _⟩ => SqL.of (x5.lst lc)) (fun j x H5 hx ⟨acc, Ls, x5, t5, d5, ta, hj, srt, prm⟩ => ?_) (fun H5 ⟨acc, Ls, x5, t5, d5, ta, hj, srt, prm⟩ => ?_)⟩
      · have hjL : j < L.length := by
          rw [← tl.1]
          exact (List.getElem?_eq_some_iff.mp hx).1
        obtain ⟨px, rfl, hpx⟩ := tl.2 j x _ hx (List.getElem?_eq_getElem hjL)
        refine ⟨rfl, .ref px, rfl, px, _, rfl, x5.seqT hpx, fun ns' ps perm srt' hps => ?_⟩
        refine ⟨ps, _, rfl, .inl ⟨SqL.of upd_same, fun pt hpt => ?_⟩⟩
        have x6 : Ext H5 (upd (upd H5 ps (.lst (ns'.map V.int))) pt (.tup (ns'.map V.int))) := (Ext.new hps).trans (Ext.new hpt)
        have t6 : Tabs T (upd (upd H5 ps (.lst (ns'.map V.int))) pt (.tup (ns'.map V.int))) := (t5.same (Same.new hps)).same (Same.new hpt)
        have d6 := x6.lst d5
        refine ⟨acc, d6, small1000 (by rw [ta.1, hj]; have := inv.len; omega), acc ++ [.ref pt], Ls ++ [ns'], ?_, t6.lst d6, upd_same, ?_, by simp [hj], fun l hl => ?_, fun j' l l' e1 e2 => ?_⟩
        · exact ext_writeF (x5.trans x6) fun o e => by rw [hD] at e; cases e
        · exact ((ta.ext x6).snoc ⟨pt, rfl, SqT.of upd_same⟩).updL d6
        · rcases List.mem_append.mp hl with z | z
          · exact srt l z
          · have : l = ns' := by simpa using z
            rw [this]
            exact srt'
        · by_cases hj' : j' < Ls.length
          · rw [List.getElem?_append_left hj'] at e2
            exact prm j' l l' e1 e2
          · have hl2 := (List.getElem?_eq_some_iff.mp e2).1
            have ej : j' = Ls.length := by simp at hl2; omega
            subst ej
            rw [List.getElem?_concat_length] at e2
            obtain rfl := Option.some.inj e2
            rw [hj, List.getElem?_eq_getElem hjL] at e1
            obtain rfl := Option.some.inj e1
            exact perm
      · refine ⟨D, acc, rfl, .inl ⟨SqL.of d5, fun pt hpt => ?_⟩⟩
        have x6 : Ext H5 (upd H5 pt (.tup acc)) := Ext.new hpt
        have ro : Reord L Ls := ⟨by rw [hj, hls, inv.len], prm⟩
        exact q Ls _ pt (Given.of ok.len inv ef ro srt) (fr_of ((x0.trans xc).trans x5) hpt) (((x0.trans xc).trans x5).trans x6) (t5.same (Same.new hpt)) ⟨acc, SqT.of upd_same, ta.ext x6⟩
end
end PM
namespace PM
open PySem PySem.Spec PyProof.Rows L2 GenW
/-! ### taking turns -/
/-- the first of those worth the most -/
def pick (r left : List Int) : Int := ((left.filter fun t => decide (at0 r t = mx (left.map (at0 r)))).head?).getD 0
def stp (R : List (List Int)) (order : List Nat) (m : Nat) : Nat → List Int × List (List Int)
  | 0 => (upto m, List.replicate R.length [])
  | p + 1 =>
    let s := stp R order m p
    let k := order.getD (p % order.length) 0
    let b := pick (R.getD k []) s.1
    (s.1.erase b, s.2.set k (s.2.getD k [] ++ [b]))
theorem pick_spec {r left : List Int} (h : left ≠ []) (s : left.Pairwise (· < ·)) : pick r left ∈ left ∧ (∀ t ∈ left, at0 r t ≤ at0 r (pick r left)) ∧ ∀ t ∈ left, at0 r t = at0 r (pick r left) → pick r left ≤ t := by
  have hne : left.map (at0 r) ≠ [] := fun z => h (List.map_eq_nil_iff.mp z)
  obtain ⟨m1, m2⟩ := mx_mem hne
  obtain ⟨t0, ht0, et0⟩ := List.mem_map.mp m1
  obtain ⟨fl, efl⟩ : ∃ fl, fl = left.filter fun t => decide (at0 r t = mx (left.map (at0 r))) := ⟨_, rfl⟩
  have hmem : t0 ∈ fl := by rw [efl]; exact List.mem_filter.mpr ⟨ht0, decide_eq_true et0⟩
  have hs : fl.Pairwise (· < ·) := by rw [efl]; exact s.filter _
  cases hfl : fl with
  | nil => rw [hfl] at hmem; exact absurd hmem (by simp)
  | cons x xs =>
    have ep : pick r left = x := by
      unfold pick
      rw [← efl, hfl]
      rfl
    have hx : x ∈ fl := by rw [hfl]; exact List.mem_cons_self
    rw [efl] at hx
    obtain ⟨hx1, hx2⟩ := List.mem_filter.mp hx
    have hx3 := of_decide_eq_true hx2
    rw [ep, hx3]
    refine ⟨hx1, fun t ht => m2 _ (List.mem_map.mpr ⟨t, ht, rfl⟩), fun t ht e => ?_⟩
    have htf : t ∈ fl := by rw [efl]; exact List.mem_filter.mpr ⟨ht, decide_eq_true e⟩
    rw [hfl] at htf hs
    rcases List.mem_cons.mp htf with z | z
    · omega
    · have := (List.pairwise_cons.mp hs).1 t z
      omega
/-- the greatest by (worth, 0 - thing) is the first of those worth the most -/
theorem pick_key {r left : List Int} {z : Int} (s : left.Pairwise (· < ·)) (hz : z ∈ left) (h : ∀ y ∈ left, ¬ (at0 r z < at0 r y ∨ (at0 r z = at0 r y ∧ 0 - z < 0 - y))) : z = pick r left := by
  have hne : left ≠ [] := fun e => by rw [e] at hz; exact absurd hz (by simp)
  obtain ⟨h1, h2, h3⟩ := pick_spec (r := r) hne s
  have a := h _ h1
  have b := h2 z hz
  have e : at0 r z = at0 r (pick r left) := by omega
  have c := h3 z hz e
  omega
structure RInv (R : List (List Int)) (order : List Nat) (left : List Int) (L : List (List Int)) (n m p : Nat) : Prop where
  len : L.length = n
  srt : left.Pairwise (· < ·)
  lft : ∀ t ∈ left, 0 ≤ t ∧ t < m
  cnt : left.length + p = m
  one : ∀ (j : Nat) (l : List Int), L[j]? = some l → l.Nodup ∧ ∀ t ∈ l, (0 ≤ t ∧ t < m) ∧ t ∉ left
  all : ∀ t : Int, 0 ≤ t → t < m → t ∈ left ∨ ∃ (j : Nat) (l : List Int), L[j]? = some l ∧ t ∈ l
  apart : ∀ (j j' : Nat) (l l' : List Int) (t : Int), L[j]? = some l → L[j']? = some l' → t ∈ l → t ∈ l' → j = j'
  best : ∀ (a : Nat) (r l : List Int), R[a]? = some r → L[a]? = some l → ∀ s ∈ l, ∀ t ∈ left, at0 r t ≤ at0 r s
  pair : ∀ (a b : Nat) (r la lb : List Int), R[a]? = some r → L[a]? = some la → L[b]? = some lb → ∀ (i : Nat) (x : Int), lb[i + 1]? = some x → ∃ y, la[i]? = some y ∧ at0 r x ≤ at0 r y
  turn : ∃ c q0, p = c * n + q0 ∧ q0 < n ∧ ∀ (q a : Nat) (l : List Int), order[q]? = some a → L[a]? = some l → l.length = c + (if q < q0 then 1 else 0)
structure OrderOk (order : List Nat) (n : Nat) : Prop where
  len : order.length = n
  nd : order.Nodup
  lt : ∀ a ∈ order, a < n
  all : ∀ a, a < n → a ∈ order
theorem RInv.start {R : List (List Int)} {order : List Nat} {n m : Nat} (hn : 0 < n) : RInv R order (upto m) (List.replicate n []) n m 0 := by
  have nl : ∀ {j : Nat} {l : List Int}, (List.replicate n ([] : List Int))[j]? = some l → l = [] := fun e => List.eq_of_mem_replicate (List.mem_of_getElem? e)
  refine ⟨by simp, ?_, fun t ht => mem_upto.mp ht, by simp [upto], fun j l e => ?_, fun t h0 h1 => .inl (mem_upto.mpr ⟨h0, h1⟩), fun j j' l l' t e e' h h' => ?_, fun a r l er el s hs => ?_, fun a b r la lb er ea eb i x hx => ?_, 0, 0, by omega, hn, fun q a l e el => ?_⟩
  · unfold upto
    rw [List.pairwise_map]
    refine List.Pairwise.imp ?_ List.pairwise_lt_range
    intro a b h
    omega
  · rw [nl e]
    exact ⟨List.nodup_nil, fun t ht => absurd ht (by simp)⟩
  · rw [nl e] at h
    exact absurd h (by simp)
  · rw [nl el] at hs
    exact absurd hs (by simp)
  · rw [nl eb] at hx
    simp at hx
  · rw [nl el]
    simp
theorem RInv.step {R L : List (List Int)} {order : List Nat} {left : List Int} {n m p k : Nat} {rk lk : List Int} (oo : OrderOk order n) (hR : R.length = n) (h : RInv R order left L n m p) (hl : left ≠ []) (hk : order[p % n]? = some k) (erk : R[k]? = some rk) (elk : L[k]? = some lk) :
    RInv R order (left.erase (pick rk left)) (L.set k (lk ++ [pick rk left])) n m (p + 1) := by
  obtain ⟨pm, pb, pf⟩ := pick_spec (r := rk) hl h.srt
  obtain ⟨b, eb⟩ : ∃ b, b = pick rk left := ⟨_, rfl⟩
  rw [← eb] at pm pb pf ⊢
  have lnd : left.Nodup := List.nodup_iff_pairwise_ne.mpr (h.srt.imp fun {x y} hxy => by omega)
  have mem_er : ∀ t, t ∈ left.erase b ↔ t ≠ b ∧ t ∈ left := fun t => lnd.mem_erase_iff
  have hkl : k < L.length := (List.getElem?_eq_some_iff.mp elk).1
  have get : ∀ (j : Nat) (l : List Int), (L.set k (lk ++ [b]))[j]? = some l → (j = k ∧ l = lk ++ [b]) ∨ (j ≠ k ∧ L[j]? = some l) := fun j l e => by
    by_cases hj : k = j
    · subst hj
      rw [List.getElem?_set_self hkl] at e
      exact .inl ⟨rfl, (Option.some.inj e).symm⟩
    · rw [List.getElem?_set_ne hj] at e
      exact .inr ⟨Ne.symm hj, e⟩
  have notin : ∀ (j : Nat) (l : List Int), L[j]? = some l → b ∉ l := fun j l e z => ((h.one j l e).2 b z).2 pm
  obtain ⟨c, q0, ep, hq0, ht⟩ := h.turn
  have hpm : p % n = q0 := by
    rw [ep, Nat.mul_comm, Nat.mul_add_mod, Nat.mod_eq_of_lt hq0]
  rw [hpm] at hk
  have lenk : lk.length = c := by
    have := ht q0 k lk hk elk
    simpa using this
  have lenge : ∀ (a : Nat) (l : List Int), L[a]? = some l → c ≤ l.length := fun a l e => by
    have ha : a < n := by rw [← h.len]; exact (List.getElem?_eq_some_iff.mp e).1
    obtain ⟨q, hq⟩ := List.mem_iff_getElem?.mp (oo.all a ha)
    have := ht q a l hq e
    omega
  refine ⟨by rw [List.length_set]; exact h.len, h.srt.sublist List.erase_sublist, fun t ht' => h.lft t ((mem_er t).mp ht').2, ?_, fun j l e => ?_, fun t h0 h1 => ?_, fun j j' l l' t e e' ht ht' => ?_, fun a r l er el s hs t htl => ?_, fun a b' r la lb er ea eb' i x hx => ?_, ?_⟩
  · have := List.length_erase_of_mem pm
    have hpos : 0 < left.length := List.length_pos_of_mem pm
    have := h.cnt
    omega
  · rcases get j l e with ⟨rfl, rfl⟩ | ⟨hj, e⟩
    · obtain ⟨n1, n2⟩ := h.one _ _ elk
      refine ⟨?_, fun t ht => ?_⟩
      · rw [List.nodup_append]
        exact ⟨n1, by simp, fun x hx y hy => by
          have hy : y = b := by simpa using hy
          intro z
          exact notin _ _ elk (by rw [← hy, ← z]; exact hx)⟩
      · rcases List.mem_append.mp ht with z | z
        · obtain ⟨u1, u2⟩ := n2 t z
          exact ⟨u1, fun w => u2 ((mem_er t).mp w).2⟩
        · have : t = b := by simpa using z
          subst this
          exact ⟨h.lft _ pm, fun w => ((mem_er _).mp w).1 rfl⟩
    · obtain ⟨n1, n2⟩ := h.one _ _ e
      exact ⟨n1, fun t ht => ⟨(n2 t ht).1, fun w => (n2 t ht).2 ((mem_er t).mp w).2⟩⟩
  · by_cases htb : t = b
    · exact .inr ⟨k, _, List.getElem?_set_self hkl, by simp [htb]⟩
    · rcases h.all t h0 h1 with z | ⟨j, l, e, hm⟩
      · exact .inl ((mem_er t).mpr ⟨htb, z⟩)
      · right
        by_cases hj : k = j
        · subst hj
          rw [elk] at e
          obtain rfl := Option.some.inj e
          exact ⟨k, _, List.getElem?_set_self hkl, by simp [hm]⟩
        · exact ⟨j, l, by rw [List.getElem?_set_ne hj]; exact e, hm⟩
  · rcases get j l e with ⟨ej, el⟩ | ⟨hj, e2⟩ <;> rcases get j' l' e' with ⟨ej', el'⟩ | ⟨hj', e2'⟩
    · rw [ej, ej']
    · rw [el] at ht
      rcases List.mem_append.mp ht with z | z
      · rw [ej]
        exact h.apart _ _ _ _ t elk e2' z ht'
      · have : t = b := by simpa using z
        subst this
        exact absurd ht' (notin _ _ e2')
    · rw [el'] at ht'
      rcases List.mem_append.mp ht' with z | z
      · rw [ej']
        exact h.apart _ _ _ _ t e2 elk ht z
      · have : t = b := by simpa using z
        subst this
        exact absurd ht (notin _ _ e2)
    · exact h.apart _ _ _ _ t e2 e2' ht ht'
  · have htl' := ((mem_er t).mp htl).2
    rcases get a l el with ⟨ea, el2⟩ | ⟨ha, el2⟩
    · subst ea
      rw [erk] at er
      obtain rfl := Option.some.inj er
      rw [el2] at hs
      rcases List.mem_append.mp hs with z | z
      · exact h.best _ _ _ erk elk s z t htl'
      · have : s = b := by simpa using z
        rw [this]
        exact pb t htl'
    · exact h.best a r l er el2 s hs t htl'
  · -- b' has an item more; a keeps, or has one more at its end
    have old : ∀ (la0 : List Int), L[a]? = some la0 → ∀ (y : Int), la0[i]? = some y → la[i]? = some y := fun la0 e0 y hy => by
      rcases get a la ea with ⟨e1, e2⟩ | ⟨e1, e2⟩
      · subst e1
        rw [elk] at e0
        obtain rfl := Option.some.inj e0
        rw [e2, List.getElem?_append_left (List.getElem?_eq_some_iff.mp hy).1]
        exact hy
      · rw [e2] at e0
        obtain rfl := Option.some.inj e0
        exact hy
    obtain ⟨la0, ea0⟩ : ∃ la0, L[a]? = some la0 := ⟨_, List.getElem?_eq_getElem (by
      have := (List.getElem?_eq_some_iff.mp er).1
      rw [h.len]
      omega)⟩
    rcases get b' lb eb' with ⟨e1, e2⟩ | ⟨e1, e2⟩
    · subst e1
      rw [e2] at hx
      by_cases hi : i + 1 < lk.length
      · rw [List.getElem?_append_left hi] at hx
        obtain ⟨y, y1, y2⟩ := h.pair a b' r la0 lk er ea0 elk i x hx
        exact ⟨y, old la0 ea0 y y1, y2⟩
      · have hl2 := (List.getElem?_eq_some_iff.mp hx).1
        have ei : i + 1 = lk.length := by simp at hl2; omega
        rw [ei, List.getElem?_concat_length] at hx
        obtain rfl := Option.some.inj hx
        have hil : i < la0.length := by
          have := lenge a la0 ea0
          omega
        exact ⟨la0[i], old la0 ea0 _ (List.getElem?_eq_getElem hil), h.best a r la0 er ea0 _ (List.getElem_mem hil) _ pm⟩
    · obtain ⟨y, y1, y2⟩ := h.pair a b' r la0 lb er ea0 e2 i x hx
      exact ⟨y, old la0 ea0 y y1, y2⟩
  · have key : ∀ (q a : Nat) (l : List Int), order[q]? = some a → (L.set k (lk ++ [b]))[a]? = some l → l.length = c + (if q < q0 + 1 then 1 else 0) := fun q a l eo el => by
      rcases get a l el with ⟨e1, e2⟩ | ⟨e1, e2⟩
      · subst e1
        have : q = q0 := nd_ix oo.nd eo hk
        subst this
        rw [e2]
        simp [lenk]
      · have hne : q ≠ q0 := fun z => by
          rw [z, hk] at eo
          exact e1 (Option.some.inj eo).symm
        rw [ht q a l eo e2]
        congr 1
        by_cases h1 : q < q0
        · rw [if_pos h1, if_pos (by omega)]
        · rw [if_neg h1, if_neg (by omega)]
    by_cases hq1 : q0 + 1 < n
    · exact ⟨c, q0 + 1, by omega, hq1, key⟩
    · refine ⟨c + 1, 0, ?_, by omega, fun q a l eo el => ?_⟩
      · rw [Nat.add_mul]
        omega
      · have hqn : q < n := by
          rw [← oo.len]
          exact (List.getElem?_eq_some_iff.mp eo).1
        rw [key q a l eo el, if_pos (by omega), if_neg (by omega)]
theorem stp_inv {R : List (List Int)} {order : List Nat} {n m : Nat} (oo : OrderOk order n) (hn : 0 < n) (hR : R.length = n) : ∀ p, p ≤ m → RInv R order (stp R order m p).1 (stp R order m p).2 n m p
  | 0, _ => by
    unfold stp
    rw [hR]
    exact RInv.start hn
  | p + 1, hp => by
    have ih := stp_inv (m := m) oo hn hR p (by omega)
    have hq : p % n < order.length := by rw [oo.len]; exact Nat.mod_lt _ hn
    have ek : order[p % n]? = some order[p % n] := List.getElem?_eq_getElem hq
    have hk : order[p % n] < n := oo.lt _ (List.getElem_mem hq)
    have hkR : order[p % n] < R.length := by rw [hR]; exact hk
    have hkL : order[p % n] < (stp R order m p).2.length := by rw [ih.len]; exact hk
    have hne : (stp R order m p).1 ≠ [] := fun z => by
      have := ih.cnt
      rw [z] at this
      simp at this
      omega
    have := ih.step oo hR hne ek (List.getElem?_eq_getElem hkR) (List.getElem?_eq_getElem hkL)
    unfold stp
    simp only [oo.len]
    have e1 : order.getD (p % n) 0 = order[p % n] := by simp [hq]
    rw [e1, getD_at hkR, getD_at hkL]
    exact this
theorem RInv.done {R L : List (List Int)} {order : List Nat} {n m : Nat} {left : List Int} (ok : RowsOk R n m) (h : RInv R order left L n m m) : LotInv L n m ∧ Ef1 R L := by
  have hl : left = [] := List.eq_nil_of_length_eq_zero (by have := h.cnt; omega)
  subst hl
  refine ⟨⟨h.len, fun j l e => ⟨(h.one j l e).1, fun t ht => ((h.one j l e).2 t ht).1⟩, fun t h0 h1 => (h.all t h0 h1).resolve_left (by simp), h.apart⟩, fun a b r la lb er ea eb => ?_⟩
  rw [butAt_iff]
  cases lb with
  | nil => exact .inl rfl
  | cons f rest =>
    right
    have hmx := (mx_mem (l := (f :: rest).map (at0 r)) (by simp)).2 (at0 r f) (by simp)
    have dom : ∀ (xs ys : List Int), (∀ (i : Nat) (x : Int), xs[i]? = some x → ∃ y, ys[i]? = some y ∧ at0 r x ≤ at0 r y) → W r xs ≤ W r ys := by
      intro xs
      induction xs with
      | nil => intro ys _; exact (W_le (l := ys) ok er).2
      | cons x xs ih =>
        intro ys hd
        obtain ⟨y, e0, hy⟩ := hd 0 x rfl
        cases ys with
        | nil => simp at e0
        | cons y0 ys =>
          obtain rfl : y0 = y := Option.some.inj e0
          have := ih ys fun i x' hx' => hd (i + 1) x' hx'
          have e1 : W r (x :: xs) = at0 r x + W r xs := by simp [W]
          have e2 : W r (y0 :: ys) = at0 r y0 + W r ys := by simp [W]
          omega
    have := dom rest la fun i x hx => h.pair a b r la (f :: rest) er ea eb i x hx
    have e1 : W r (f :: rest) = at0 r f + W r rest := by simp [W]
    omega
end PM
namespace PM
open PySem PySem.Spec PyProof.Rows L2 GenW
abbrev sRounds : Stmt := topS 21
theorem scRounds : FnScope ["rows", "order", "worths", "lots", "left", "place", "one", "best", "lot", "thing"] ["rows", "order"] (defScope sRounds) := ⟨rfl, rfl, rfl, by decide +kernel, rfl, by decide +kernel, by decide +kernel⟩
theorem rgV_upto (m : Nat) : rgV 0 (m : Nat) = (upto m).map V.int := by
  unfold rgV upto
  rw [List.map_map]
  simp only [Int.sub_zero, Int.toNat_natCast, Int.zero_add]
  rfl
theorem dpIntsL (ns : List Int) : (ns.map PyData.int = []) ↔ ns = [] := List.map_eq_nil_iff
theorem shapedIntsL (ns : List Int) : SeqAt.shaped (.list (ns.map PyData.int)) = true := by
  have h1 : ∀ ns : List Int, PyData.canLayAll0 (ns.map PyData.int) = true := fun ns => by
    induction ns with
    | nil => simp [PyData.canLayAll0]
    | cons a r ih => simp [PyData.canLayAll0, PyData.canLay0, ih]
  have h2 := intsDepth ns
  show ((PyData.canLay0 (.list (ns.map PyData.int))) && decide (PyData.depth (.list (ns.map PyData.int)) ≤ 64)) = true
  rw [Bool.and_eq_true]
  refine ⟨by simp only [PyData.canLay0]; exact h1 ns, decide_eq_true ?_⟩
  simp only [PyData.depth]
  omega
theorem lst_ne {H : Hp} {a b : Addr} {xs : List V} (h1 : H a = some (.lst xs)) (h2 : H b = none) : a ≠ b := fun z => by rw [z, h2] at h1; cases h1
section
variable {P : Program} {w : World} {K : PySem.W.Frag} {mg : Str → Option Value} {base : Heap} {T : List (Addr × Str)}
def spRounds (K : PySem.W.Frag) (T : List (Addr × Str)) : Sp := fun vs H Q _ => ∃ (a ob : Addr) (R : List (List Int)) (order : List Nat) (n m : Nat), vs = [.ref a, .ref ob] ∧ LofT K H a R ∧ SqL K H ob (natV order) ∧ 0 < n ∧ n ≤ 1000 ∧ m ≤ 1000 ∧ RowsOk R n m ∧ OrderOk order n ∧ Tabs T H ∧
  ∀ (Ls : List (List Int)) (H' : Hp) (p : Addr), Given R Ls n m → Reord (stp R order m m).2 Ls → Fr H p → Ext H H' → Tabs T H' → TofT K H' p Ls → Q (.ref p) H'
theorem ok_rounds {f fC c Pt C : Addr} {fd fdC : FuncData} {k : Nat} (F : Fun K "in_rounds" "in_rounds" sRounds f fd) (G : Gn base mg T c Pt (inName "in_rounds" "<lambda>")) (hc : fd.code = .ref c) (mr : mg "range" = none) (ml : mg "len" = none) (mt : mg "tuple" = none) (ms : mg "sorted" = none) (mli : mg "list" = none) (mm : mg "max" = none)
    (FC : Fun K "check_rows" "check_rows" sCheck fC fdC) (bC : Binds K fdC ["rows"] []) (gC : mg "check_rows" = some (.ref fC)) (GC : FnOk P w K mg base (L2.CX P w) (k + 11) fC fdC ["rows"] (spCheck K T C)) :
    FnOk P w K mg base CX0 (k + 12) f fd ["rows", "order"] (spRounds K T) := by
  refine okC F scRounds (fun vs H Q E h => ?_) (fun cdv hcd A outer s H vs Q E hr h => ?_)
  · obtain ⟨a, ob, R, order, n, m, rfl, _⟩ := h
    rfl
  · obtain ⟨a, ob, R, order, n, m, rfl, hRR, hO, hpos, hn, hm, ok, oo, hT, q⟩ := h
    have hr2 : Room ((k + 9) + 2) (A.deeper (envOfC "in_rounds" (defScope sRounds) s.heap.objs.size f cdv)) := hr
    refine ⟨_, pss_cons (ps_set (i := 2) scRounds.nd rfl (Or.inr rfl) (pe_call GC hr (by rfl) gC FC.kp bC .nil (E := E0) passL (pa_cons (pv 0) pa_nil)))
      (pss_cons (ps_set (i := 3) scRounds.nd rfl (Or.inl rfl) (pe_op op_rep (pe_lst (pa_cons (pe_tup pa_nil) pa_nil)) (pe_callB (cr_len rfl) (by rfl) ml PySem.boot_len (pa_cons (pv 2) pa_nil))))
      (pss_cons (ps_set (i := 4) scRounds.nd rfl (Or.inl rfl) (pe_listRg rfl (by rfl) mli (prg_1 (by rfl) mr (pe_ifExp (pt_cmpR (op_neD hr.units) (pv 2) (pe_lst pa_nil) (nomark _)) (pe_callB (cr_len rfl) (by rfl) ml PySem.boot_len (pa_cons (pe_ix ix_list (pv 2) pe_int (fun _ _ => rfl)) pa_nil)) pe_int))))
      (pss_cons (ps_set (i := 5) scRounds.nd rfl (Or.inl rfl) pe_int)
      (pss_cons (ps_while PassesOwn.never (PW.pt (pw_and (pt_cmpR (op_neD hr.units) (pv 4) (pe_lst pa_nil) (nomark _)) (pw_and1 (pt_cmpR op_gt (pe_callB (cr_len rfl) (by rfl) ml PySem.boot_len (pa_cons (pv 1) pa_nil)) pe_int (nomark _)))))
        (pss_cons (ps_set (i := 6) scRounds.nd rfl (Or.inr rfl) (pe_ix ix_list (pv 1) (pe_op op_modN (pv 5) (pe_callB (cr_len rfl) (by rfl) ml PySem.boot_len (pa_cons (pv 1) pa_nil))) (fun _ _ => rfl)))
        (pss_cons (ps_set (i := 7) scRounds.nd rfl (Or.inl rfl) (pe_maxKey (T := T) (i := 9) (x := "thing") (k := k + 9) (tb := tTup (tCons (tOp (rIxT K) (tOp (rIxL K) (tVar 2) (tVar 6)) (tVar 9)) (tCons (tOp (rI0 fun i j => .int (i - j)) (tC (.int 0)) (tVar 9)) tNil))) hr2 rfl scRounds.nd (by rfl) mm (pv 4) G.tb (hcd.symm.trans hc) G.mem G.uniq (lamP_by (sc := defScope sRounds) (by decide +kernel)) rfl rfl (fun _ _ _ _ _ _ => rfl)
            (fun _ _ _ _ _ => pe_tup (pa_cons (pe_ix ix_tup (pe_ix ix_list (pv 2) (pv 6) (fun _ _ => rfl)) (pv 9) (fun _ _ => rfl)) (pa_cons (pe_op op_sub pe_int (pv 9)) pa_nil)))))
        (pss_cons (ps_asg (pe_op op_catA (pe_ix ix_list (pv 3) (pv 6) (fun _ _ => rfl)) (pe_tup (pa_cons (pv 7) pa_nil))) (pg_sub (pv 3) (pv 6) set_list))
        (pss_cons (ps_expr (pe_bm PySem.F.plainAttrs_list PySem.F.slot_list_remove PySem.F.type_list_remove mt_remove (pv 4) (pa_cons (pv 7) pa_nil)))
        (pss_one (ps_aug (i := 5) scRounds.nd rfl (.inl rfl) pe_int ip_add)))))))
      (pss_one (ps_ret (pe_callTy call_tuple_of (by rfl) mt (by decide +kernel) (pa_cons (pe_lc (own := [("lot", 8)]) (g := gName 8) (tt := tYes) rfl scRounds.nd (pi_list (pv 3)) (blkOk_by (N := ["rows", "order", "worths", "lots", "left", "place", "one", "best", "lot", "thing"]) (sc := defScope sRounds) (by decide +kernel)) (fun _ _ _ _ _ => pg_name (i := 8) scRounds.nd rfl (Or.inl rfl)) (fun _ _ _ _ _ => pts_nil)
          (fun _ _ _ _ _ => pe_callTy (r := fun xs H Q => ∃ p ys, xs = [.ref p] ∧ ((SqL K H p ys ∧ ∀ l, H l = none → Q (.ref l) (upd H l (.tup ys))) ∨ (SqT K H p ys ∧ Q (.ref p) H))) call_tuple_of (by rfl) mt (by decide +kernel) (pa_cons (pe_callB (r := rSortedTI K) cr_sortedTI (by rfl) ms (by decide +kernel) (pa_cons (pv 8) pa_nil)) pa_nil))) pa_nil)))))))), ?_⟩
    refine ⟨.ref a, rfl, a, R, rfl, hRR, by rw [ok.len]; exact hn, fun r hr' => by rw [(ok.row r hr').1]; exact hm, hT, fun good vw H0 wa tw nwa x0 t0 w0 => ?_, fun bad H' _ => ?_⟩
    case refine_2 =>
      rw [ok.good] at bad
      cases bad
    have hwl : vw.length = n := by rw [tw.1, ok.len]
    have hO0 := x0.seqL hO
    -- lots = [()] * len(worths)
    refine ⟨Nat.zero_le _, fun pe hpe => ⟨by show 1 ≤ sizeLine; decide, fun pl hpl => ?_⟩⟩
    obtain ⟨H1, eH1⟩ : ∃ H1, H1 = upd (upd H0 pe (.tup [])) pl (.lst [.ref pe]) := ⟨_, rfl⟩
    rw [← eH1]
    have x1 : Ext H0 H1 := by rw [eH1]; exact (Ext.new hpe).trans (Ext.new hpl)
    have t1 : Tabs T H1 := by rw [eH1]; exact (t0.same (Same.new hpe)).same (Same.new hpl)
    have l1 : H1 pl = some (.lst [.ref pe]) := by rw [eH1, upd_same]
    have nple : pe ≠ pl := fun z => by rw [← z, upd_same] at hpl; cases hpl
    have e1 : H1 pe = some (.tup []) := by rw [eH1, upd_ne nple, upd_same]
    have tupe : TupI K H1 (.ref pe) [] := ⟨pe, rfl, SqT.of e1⟩
    refine ⟨.ref wa, rfl, wa, vw, rfl, .inl (SqL.of (x1.lst w0)), pl, _, _, rfl, rfl, l1, by omega, by omega, ?_, fun la hla => ?_⟩
    · simp only [List.length_cons, List.length_nil, Int.toNat_natCast]
      have := small1000 (n := vw.length) (by omega)
      omega
    have erep : (List.replicate ((vw.length : Nat) : Int).toNat [V.ref pe]).flatten = List.replicate n (V.ref pe) := by
      rw [Int.toNat_natCast, hwl, rep_flat]
    rw [erep]
    have f0la : Fr H0 la := fr_of x1 hla
    have tl0 : TupsI K (upd H1 la (.lst (List.replicate n (V.ref pe)))) (List.replicate n (V.ref pe)) (List.replicate n []) := (rep_tups tupe n).ext (Ext.new hla)
    have hv0 : ∃ v0, vw[0]? = some v0 ∧ TupI K H0 v0 R[0]! := by
      have h0 : 0 < R.length := by rw [ok.len]; exact hpos
      obtain ⟨v, e, t⟩ := tw.get h0
      exact ⟨v, e, by simpa [h0] using t⟩
    obtain ⟨v0, ev0, tv0⟩ := hv0
    have hr0 : R[0]!.length = m := by
      have h0 : 0 < R.length := by rw [ok.len]; exact hpos
      have := (ok.row _ (List.getElem_mem h0)).1
      simpa [h0] using this
    -- left = list(range(..))
    refine ⟨.ref wa, rfl, Nat.zero_le _, fun pe2 hpe2 => ?_⟩
    obtain ⟨H2, eH2⟩ : ∃ H2, H2 = upd H1 la (.lst (List.replicate n (V.ref pe))) := ⟨_, rfl⟩
    rw [← eH2] at hpe2 tl0 ⊢
    have x2 : Ext H0 H2 := by rw [eH2]; exact x1.trans (Ext.new hla)
    have t2 : Tabs T H2 := by rw [eH2]; exact t1.same (Same.new hla)
    have l2 : H2 la = some (.lst (List.replicate n (V.ref pe))) := by rw [eH2, upd_same]
    have x3 : Ext H2 (upd H2 pe2 (.lst [])) := Ext.new hpe2
    have x23 := x2.trans x3
    refine ⟨_, _, .lst (SqL.of (x23.lst w0)) (dpTups vw R (tw.ext x23)), .lst (SqL.of upd_same) .nil, shapedTups R, by decide +kernel, _, rfl, ?_⟩
    rw [eqv_nilL]
    have hRne : decide (R.map (fun r => PyData.tuple (r.map PyData.int)) = []) = false := decide_eq_false fun z => by
      have := List.map_eq_nil_iff.mp z
      have := ok.len
      simp_all
    rw [hRne]
    refine iteT ?_
    obtain ⟨p0, rfl, hp0⟩ := tv0.ext x23
    refine ⟨.ref wa, rfl, wa, vw, 0, .ref p0, rfl, rfl, SqL.of (x23.lst w0), atI_nat (j := 0) ev0, p0, _, rfl, .inr hp0, _, rfl, ?_⟩
    rw [List.length_map, hr0]
    refine ⟨RgOk.of_le (by omega) (by omega) (by omega) (by omega), fun lf hlf => ?_⟩
    rw [rgV_upto]
    have x4 := x23.trans (Ext.new (o := .lst ((upto m).map V.int)) hlf)
    have t4 := (t2.same (Same.new (o := .lst []) hpe2)).same (Same.new (o := .lst ((upto m).map V.int)) hlf)
    have stp0 : stp R order m 0 = (upto m, List.replicate n []) := by unfold stp; rw [ok.len]
    -- place = 0; while ..
    refine ⟨fun g σ Hc => ∃ p la lf ls y6 y7, p ≤ m ∧ σ = [some (.ref a), some (.ref ob), some (.ref wa), some (.ref la), some (.ref lf), some (.int (p : Nat)), y6, y7, none, none] ∧ Ext H0 Hc ∧ Tabs T Hc ∧ Fr H0 la ∧ Fr H0 lf ∧ la ≠ lf ∧ Hc la = some (.lst ls) ∧ TupsI K Hc ls (stp R order m p).2 ∧ Hc lf = some (.lst ((stp R order m p).1.map V.int)) ∧ g = m - p,
      ⟨_, 0, la, lf, _, none, none, Nat.zero_le _, rfl, x4, t4, f0la, fr_of x23 hlf, lst_ne (x3.lst l2) hlf, (x3.trans (Ext.new hlf)).lst l2, by rw [stp0]; exact tl0.ext (x3.trans (Ext.new hlf)), by rw [stp0]; exact upd_same, rfl⟩, fun g σ Hc ⟨p, la, lf, ls, y6, y7, hp, es, xc, tc, fla, flf, nlf, lc, tl, fc, eg⟩ => ?_⟩
    subst es
    have inv := stp_inv (m := m) oo hpos ok.len p hp
    refine ⟨.ref lf, rfl, Nat.zero_le _, fun pe3 hpe3 => ?_⟩
    have x5 : Ext Hc (upd Hc pe3 (.lst [])) := Ext.new hpe3
    have t5 : Tabs T (upd Hc pe3 (.lst [])) := tc.same (Same.new hpe3)
    refine ⟨_, _, .lst (SqL.of (x5.lst fc)) (dpInts _), .lst (SqL.of upd_same) .nil, shapedIntsL _, by decide +kernel, _, rfl, ?_⟩
    rw [eqv_nilL]
    by_cases hnil : (stp R order m p).1 = []
    · have e : decide ((stp R order m p).1.map PyData.int = []) = true := decide_eq_true (by rw [hnil]; rfl)
      rw [e]
      refine iteF (iteF ?_)
      have hpm : p = m := by
        have := inv.cnt
        rw [hnil] at this
        simpa using this
      subst hpm
      have lc := x5.lst lc
      have tl := tl.ext x5
      have xc := xc.trans x5
      have tc := t5
      obtain ⟨inv', ef⟩ := inv.done ok
      obtain ⟨L, eL⟩ : ∃ L, L = (stp R order p p).2 := ⟨_, rfl⟩
      rw [← eL] at tl inv' ef
      have hls : ls.length = n := by rw [tl.1, inv'.len]
      obtain ⟨Hc', eHc'⟩ : ∃ Hc', Hc' = upd Hc pe3 (.lst []) := ⟨_, rfl⟩
      rw [← eHc'] at lc tl xc tc ⊢
      have inv := inv'
      refine ⟨.ref la, rfl, la, rfl, ⟨_, SqL.of lc⟩, fun D hD => lc_list (xs := ls) (fun j H5 => ∃ acc Ls, Ext Hc' H5 ∧ Tabs T H5 ∧ H5 D = some (.lst acc) ∧ TupsI K H5 acc Ls ∧ Ls.length = j ∧ (∀ l ∈ Ls, l.Pairwise (· ≤ ·)) ∧ ∀ (j' : Nat) (l l' : List Int), L[j']? = some l → Ls[j']? = some l' → l'.Perm l)
        ⟨[], [], Ext.new hD, tc.same (Same.new hD), upd_same, TupsI.nil, rfl, fun l hl => absurd hl (by simp), fun j' l l' _ e => by simp at e⟩ (fun j H5 _ ⟨acc, Ls, x5, _⟩ => SqL.of (x5.lst lc)) (fun j x H5 hx ⟨acc, Ls, x5, t5, d5, ta, hj, srt, prm⟩ => ?_) (fun H5 ⟨acc, Ls, x5, t5, d5, ta, hj, srt, prm⟩ => ?_)⟩
      · have hjL : j < L.length := by
          rw [← tl.1]
          exact (List.getElem?_eq_some_iff.mp hx).1
        obtain ⟨px, rfl, hpx⟩ := tl.2 j x _ hx (List.getElem?_eq_getElem hjL)
        refine ⟨rfl, .ref px, rfl, px, _, rfl, x5.seqT hpx, fun ns' ps perm srt' hps => ?_⟩
        refine ⟨ps, _, rfl, .inl ⟨SqL.of upd_same, fun pt hpt => ?_⟩⟩
        have x6 : Ext H5 (upd (upd H5 ps (.lst (ns'.map V.int))) pt (.tup (ns'.map V.int))) := (Ext.new hps).trans (Ext.new hpt)
        have t6 : Tabs T (upd (upd H5 ps (.lst (ns'.map V.int))) pt (.tup (ns'.map V.int))) := (t5.same (Same.new hps)).same (Same.new hpt)
        have d6 := x6.lst d5
        refine ⟨acc, d6, small1000 (by rw [ta.1, hj]; have := inv.len; omega), acc ++ [.ref pt], Ls ++ [ns'], ?_, t6.lst d6, upd_same, ?_, by simp [hj], fun l hl => ?_, fun j' l l' e1 e2 => ?_⟩
        · exact ext_writeF (x5.trans x6) fun o e => by rw [hD] at e; cases e
        · exact ((ta.ext x6).snoc ⟨pt, rfl, SqT.of upd_same⟩).updL d6
        · rcases List.mem_append.mp hl with z | z
          · exact srt l z
          · have : l = ns' := by simpa using z
            rw [this]
            exact srt'
        · by_cases hj' : j' < Ls.length
          · rw [List.getElem?_append_left hj'] at e2
            exact prm j' l l' e1 e2
          · have hl2 := (List.getElem?_eq_some_iff.mp e2).1
            have ej : j' = Ls.length := by simp at hl2; omega
            subst ej
            rw [List.getElem?_concat_length] at e2
            obtain rfl := Option.some.inj e2
            rw [hj, List.getElem?_eq_getElem hjL] at e1
            obtain rfl := Option.some.inj e1
            exact perm
      · refine ⟨D, acc, rfl, .inl ⟨SqL.of d5, fun pt hpt => ?_⟩⟩
        have x6 : Ext H5 (upd H5 pt (.tup acc)) := Ext.new hpt
        have ro : Reord L Ls := ⟨by rw [hj, hls, inv.len], prm⟩
        exact q Ls _ pt (Given.of ok.len inv ef ro srt) (by rw [← eL]; exact ro) (fr_of ((x0.trans xc).trans x5) hpt) (((x0.trans xc).trans x5).trans x6) (t5.same (Same.new hpt)) ⟨acc, SqT.of upd_same, ta.ext x6⟩
    · have e : decide ((stp R order m p).1.map PyData.int = []) = false := decide_eq_false (fun z => hnil (List.map_eq_nil_iff.mp z))
      rw [e]
      refine iteT ?_
      have hO5 := (xc.trans x5).seqL hO0
      refine ⟨.ref ob, rfl, ob, _, rfl, .inl hO5, _, _, rfl, rfl, _, rfl, ?_⟩
      have hlo : (natV order).length = n := by rw [natV_len, oo.len]
      have e2 : decide ((0 : Int) < ((natV order).length : Nat)) = true := decide_eq_true (by rw [hlo]; omega)
      rw [e2]
      refine iteT ?_
      have hpn : p % n < order.length := by rw [oo.len]; exact Nat.mod_lt _ hpos
      obtain ⟨k1, ek1⟩ : ∃ k1, k1 = order[p % n] := ⟨_, rfl⟩
      have eko : order[p % n]? = some k1 := by rw [ek1]; exact List.getElem?_eq_getElem hpn
      have hk1 : k1 < n := by rw [ek1]; exact oo.lt _ (List.getElem_mem hpn)
      have hkR : k1 < R.length := by rw [ok.len]; exact hk1
      have hkL : k1 < (stp R order m p).2.length := by rw [inv.len]; exact hk1
      obtain ⟨rv, erv, trv⟩ := tw.get hkR
      obtain ⟨pr, rfl, hpr⟩ := trv
      obtain ⟨vf, evf, tvf⟩ := tl.get hkL
      obtain ⟨pf, rfl, hpf⟩ := tvf
      have hpm : p < m := by
        have := inv.cnt
        have : 0 < (stp R order m p).1.length := List.length_pos_iff.mpr hnil
        omega
      refine ⟨fun σ' H' => ∃ g' < g, ∃ p la lf ls y6 y7, p ≤ m ∧ σ' = [some (.ref a), some (.ref ob), some (.ref wa), some (.ref la), some (.ref lf), some (.int (p : Nat)), y6, y7, none, none] ∧ Ext H0 H' ∧ Tabs T H' ∧ Fr H0 la ∧ Fr H0 lf ∧ la ≠ lf ∧ H' la = some (.lst ls) ∧ TupsI K H' ls (stp R order m p).2 ∧ H' lf = some (.lst ((stp R order m p).1.map V.int)) ∧ g' = m - p,
        fun σ' H' ⟨g', hg', rest⟩ => ⟨g', hg', rest⟩, ?_⟩
      -- one = order[place % len(order)]
      refine ⟨.ref ob, rfl, .int (p : Nat), rfl, .ref ob, rfl, ob, _, rfl, .inl hO5, _, _, rfl, rfl, by rw [hlo]; omega, ob, _, _, .int (k1 : Nat), rfl, rfl, hO5, ?_, ?_⟩
      · have ef : Int.fmod ((p : Nat) : Int) ((natV order).length : Nat) = ((p % n : Nat) : Int) := by
          rw [hlo, Int.fmod_eq_emod_of_nonneg _ (by omega), Int.natCast_emod]
        rw [ef]
        exact atI_nat (natV_get eko)
      -- best = max(left, key=..)
      obtain ⟨left, eleft⟩ : ∃ left, left = (stp R order m p).1 := ⟨_, rfl⟩
      obtain ⟨L, eL⟩ : ∃ L, L = (stp R order m p).2 := ⟨_, rfl⟩
      rw [← eleft] at fc hnil
      rw [← eL] at tl hkL
      have hpf' : SqT K Hc pf ((L[k1]).map V.int) := by simpa [eL] using hpf
      have inv1 : RInv R order left L n m p := by rw [eleft, eL]; exact inv
      refine ⟨.ref lf, rfl, t5, lf, left, at0 R[k1], fun z => 0 - z, rfl, SqL.of (x5.lst fc), hnil, rfl, fun H6 z hz x6 t6 => ?_, fun H6 z hz hmx x6 t6 => ?_⟩
      · have x06 := (xc.trans x5).trans x6
        have hz2 := inv1.lft z hz
        refine ⟨.ref wa, rfl, .int (k1 : Nat), rfl, wa, vw, _, .ref pr, rfl, rfl, SqL.of (x06.lst w0), atI_nat erv, .int z, rfl, pr, _, z, _, rfl, rfl, x06.seqT hpr, atI_at0 hz2.1 (by rw [(ok.row _ (List.getElem_mem hkR)).1]; exact hz2.2), .int z, rfl, _, _, rfl, rfl, by show 2 ≤ sizeLine; decide, fun pw hpw => ?_⟩
        exact ⟨pw, rfl, upd_same, Ext.new hpw, t6.same (Same.new hpw)⟩
      have hzp : z = pick R[k1] left := pick_key inv1.srt hz fun y hy => hmx y hy
      have x56 := x5.trans x6
      have x06 := xc.trans x56
      have lc6 := x56.lst lc
      have tl6 := tl.ext x56
      -- lots[one] = lots[one] + (best,)
      refine ⟨.ref la, rfl, .int (k1 : Nat), rfl, la, ls, _, .ref pf, rfl, rfl, SqL.of lc6, atI_nat evf, .int z, rfl, by show 1 ≤ sizeLine; decide, fun p1 hp1 => ?_⟩
      have x7 : Ext H6 (upd H6 p1 (.tup [.int z])) := Ext.new hp1
      have t7 : Tabs T (upd H6 p1 (.tup [.int z])) := t6.same (Same.new hp1)
      have hls : ls.length = n := by rw [tl.1, inv1.len]
      have hlen : L[k1].length ≤ 1000 := by
        obtain ⟨n1, n2⟩ := inv1.one k1 _ (List.getElem?_eq_getElem hkL)
        have := nodup_ltI n1 fun t ht => (n2 t ht).1
        omega
      have hlen2 : L[k1].length < m := by
        obtain ⟨n1, n2⟩ := inv1.one k1 _ (List.getElem?_eq_getElem hkL)
        have hzn : z ∉ L[k1] := fun w => (n2 z w).2 hz
        have h2 : (L[k1] ++ [z]).Nodup := by
          rw [List.nodup_append]
          exact ⟨n1, by simp, fun x hx y hy => by
            have hy : y = z := by simpa using hy
            intro w
            exact hzn (by rw [← hy, ← w]; exact hx)⟩
        have := nodup_ltI (i := m) h2 fun t ht => by
          rcases List.mem_append.mp ht with w | w
          · exact (n2 t w).1
          · have : t = z := by simpa using w
            rw [this]
            exact inv1.lft z hz
        simp at this
        omega
      obtain ⟨j, hj⟩ := List.mem_iff_getElem?.mp hz
      have lnd : left.Nodup := List.nodup_iff_pairwise_ne.mpr (inv1.srt.imp fun {x y} hxy => by omega)
      have est : stp R order m (p + 1) = (left.erase z, L.set k1 (L[k1] ++ [z])) := by
        have e1 : order.getD (p % n) 0 = k1 := by rw [List.getD_eq_getElem?_getD, eko]; rfl
        show ((stp R order m p).1.erase _, _) = _
        simp only [oo.len]
        rw [e1, ← eleft, ← eL, getD_at hkR, getD_at hkL, ← hzp]
      have fin : ∀ (pn : Addr) (H8 : Hp), Ext H6 H8 → Tabs T H8 → SqT K H8 pn ((L[k1] ++ [z]).map V.int) →
          ∃ (l : Addr) (ns : List Int) (k : Int) (j : Nat), V.ref lf = V.ref l ∧ [V.int z] = [V.int k] ∧ upd H8 la (.lst (ls.set k1 (.ref pn))) l = some (.lst (ns.map V.int)) ∧ ns[j]? = some k ∧ (∀ m : Nat, m < j → ns[m]? ≠ some k) ∧
            ∃ x, [some (V.ref a), some (.ref ob), some (.ref wa), some (.ref la), some (.ref lf), some (.int (p : Nat)), some (.int (k1 : Nat)), some (.int z), none, none][5]? = some (some x) ∧ ∃ i j', x = .int i ∧ V.int 1 = .int j' ∧ ∃ g' < g, ∃ p' la' lf' ls' y6 y7, p' ≤ m ∧ [some (V.ref a), some (.ref ob), some (.ref wa), some (.ref la), some (.ref lf), some (.int (i + j')), some (.int (k1 : Nat)), some (.int z), none, none] = [some (.ref a), some (.ref ob), some (.ref wa), some (.ref la'), some (.ref lf'), some (.int (p' : Nat)), y6, y7, none, none] ∧
              Ext H0 (upd (upd H8 la (.lst (ls.set k1 (.ref pn)))) l (.lst ((ns.eraseIdx j).map V.int))) ∧ Tabs T (upd (upd H8 la (.lst (ls.set k1 (.ref pn)))) l (.lst ((ns.eraseIdx j).map V.int))) ∧ Fr H0 la' ∧ Fr H0 lf' ∧ la' ≠ lf' ∧ upd (upd H8 la (.lst (ls.set k1 (.ref pn)))) l (.lst ((ns.eraseIdx j).map V.int)) la' = some (.lst ls') ∧ TupsI K (upd (upd H8 la (.lst (ls.set k1 (.ref pn)))) l (.lst ((ns.eraseIdx j).map V.int))) ls' (stp R order m p').2 ∧ upd (upd H8 la (.lst (ls.set k1 (.ref pn)))) l (.lst ((ns.eraseIdx j).map V.int)) lf' = some (.lst ((stp R order m p').1.map V.int)) ∧ g' = m - p' := fun pn H8 x8 t8 hpn => by
        have l8 := x8.lst lc6
        have f8 := (x56.trans x8).lst fc
        have f9 : upd H8 la (.lst (ls.set k1 (.ref pn))) lf = some (.lst (left.map V.int)) := by rw [upd_ne (Ne.symm nlf)]; exact f8
        have er : left.eraseIdx j = left.erase z := by
          have hjl := (List.getElem?_eq_some_iff.mp hj).1
          have : left.idxOf z = j := nd_ix lnd (by rw [List.getElem?_eq_getElem (List.idxOf_lt_length_iff.mpr hz), List.getElem_idxOf (List.idxOf_lt_length_iff.mpr hz)]) hj
          rw [List.erase_eq_eraseIdx_of_idxOf this]
        refine ⟨lf, left, z, j, rfl, rfl, f9, hj, fun m' hm' e => ?_, .int (p : Nat), rfl, (p : Nat), 1, rfl, rfl, m - (p + 1), by omega, p + 1, la, lf, ls.set k1 (.ref pn), _, _, by omega, rfl, ext_writeF (ext_writeF (x06.trans x8) fla) flf, (t8.lst l8).lst f9, fla, flf, nlf, ?_, ?_, ?_, rfl⟩
        · have := nd_ix lnd e hj
          omega
        · rw [upd_ne nlf, upd_same]
        · rw [est]
          exact (((tl6.ext x8).set ⟨pn, rfl, hpn⟩ k1).updL l8).updL f9
        · rw [upd_same, est, er]
      refine ⟨pf, p1, _, _, rfl, rfl, (x56.trans x7).seqT hpf', SqT.of upd_same, ?_, fun hnil2 => ?_, fun _ hnil2 => ?_, fun _ _ p2 hp2 => ?_⟩
      · rw [List.length_map]
        exact Nat.le_of_lt (small1000 (by show L[k1].length + 1 ≤ 1000; omega))
      · have hnil' : L[k1] = [] := List.map_eq_nil_iff.mp hnil2
        refine ⟨.ref la, rfl, .int (k1 : Nat), rfl, la, ls, _, k1, rfl, rfl, x7.lst lc6, ixN_of (by omega), .ref lf, rfl, .inl ⟨rfl, left.map V.int, ?_⟩, .int z, rfl, ?_⟩
        · exact SqL.of (by rw [upd_ne (Ne.symm nlf)]; exact (x56.trans x7).lst fc)
        · exact fin p1 _ x7 t7 (by rw [hnil']; exact SqT.of upd_same)
      · cases hnil2
      · have x8 := x7.trans (Ext.new (o := .tup (L[k1].map V.int ++ [.int z])) hp2)
        have t8 := t7.same (Same.new (o := .tup (L[k1].map V.int ++ [.int z])) hp2)
        refine ⟨.ref la, rfl, .int (k1 : Nat), rfl, la, ls, _, k1, rfl, rfl, x8.lst lc6, ixN_of (by omega), .ref lf, rfl, .inl ⟨rfl, left.map V.int, ?_⟩, .int z, rfl, ?_⟩
        · exact SqL.of (by rw [upd_ne (Ne.symm nlf)]; exact (x56.trans x8).lst fc)
        · exact fin p2 _ x8 t8 (SqT.of (by rw [upd_same, List.map_append]; rfl))
end
end PM
namespace PM
open PySem PySem.Spec PyProof.Rows L2 GenW
/-! ### comprehensions, told by what they make -/
/-- the heap without one address -/
def del (H : Hp) (D : Addr) : Hp := fun b => if b = D then none else H b
theorem del_ne {H : Hp} {D b : Addr} (h : b ≠ D) : del H D b = H b := if_neg h
theorem del_ext {H H' : Hp} {D : Addr} (e : Ext H H') : Ext (del H D) (del H' D) := fun b o h n => by
  by_cases hb : b = D
  · subst hb
    simp [del] at h
  · rw [del_ne hb] at h ⊢
    exact e b o h n
theorem del_sub {H : Hp} {D : Addr} : Ext (del H D) H := fun b o h _ => by
  by_cases hb : b = D
  · subst hb
    simp [del] at h
  · rw [del_ne hb] at h
    exact h
theorem del_upd {H : Hp} {D : Addr} {o : HO} : del (upd H D o) D = del H D := by
  funext b
  by_cases hb : b = D
  · subst hb
    simp [del]
  · rw [del_ne hb, del_ne hb, upd_ne hb]
theorem ext_del {H H' : Hp} {D : Addr} (e : Ext H H') (n : H D = none) : Ext H (del H' D) := fun b o h hn => by
  rw [del_ne (fun z => by rw [z, n] at h; cases h)]
  exact e b o h hn
/-- one by one -/
def Rels {α : Type} (Rel : Hp → V → α → Prop) (H : Hp) (ys : List V) (as : List α) : Prop := ys.length = as.length ∧ ∀ (i : Nat) (y : V) (a : α), ys[i]? = some y → as[i]? = some a → Rel H y a
theorem Rels.nil {α : Type} {Rel : Hp → V → α → Prop} {H : Hp} : Rels Rel H [] [] := ⟨rfl, fun i y a h => by simp at h⟩
theorem Rels.ext {α : Type} {Rel : Hp → V → α → Prop} {H H' : Hp} {ys : List V} {as : List α} (st : ∀ H H' v x, Rel H v x → Ext H H' → Rel H' v x) (h : Rels Rel H ys as) (e : Ext H H') : Rels Rel H' ys as := ⟨h.1, fun i y a h1 h2 => st _ _ _ _ (h.2 i y a h1 h2) e⟩
theorem Rels.snoc {α : Type} {Rel : Hp → V → α → Prop} {H : Hp} {ys : List V} {as : List α} {y : V} {a : α} (h : Rels Rel H ys as) (t : Rel H y a) : Rels Rel H (ys ++ [y]) (as ++ [a]) := by
  refine ⟨by simp [h.1], fun i v' r' p q => ?_⟩
  by_cases hi : i < ys.length
  · rw [List.getElem?_append_left hi] at p
    rw [List.getElem?_append_left (by rw [← h.1]; exact hi)] at q
    exact h.2 i v' r' p q
  · have hl : i < (ys ++ [y]).length := (List.getElem?_eq_some_iff.mp p).1
    have e : i = ys.length := by simp at hl; omega
    rw [e, List.getElem?_concat_length] at p
    rw [e, h.1, List.getElem?_concat_length] at q
    obtain rfl := Option.some.inj p
    obtain rfl := Option.some.inj q
    exact t
theorem Rels.get {α : Type} {Rel : Hp → V → α → Prop} {H : Hp} {ys : List V} {as : List α} (h : Rels Rel H ys as) {i : Nat} {a : α} (hi : as[i]? = some a) : ∃ y, ys[i]? = some y ∧ Rel H y a := by
  have hl := (List.getElem?_eq_some_iff.mp hi).1
  have hv : i < ys.length := by rw [h.1]; exact hl
  exact ⟨ys[i], List.getElem?_eq_getElem hv, h.2 i _ _ (List.getElem?_eq_getElem hv) hi⟩
theorem Rels.at_ {α : Type} {Rel : Hp → V → α → Prop} {H : Hp} {ys : List V} {as : List α} (h : Rels Rel H ys as) {i : Nat} {y : V} (hi : ys[i]? = some y) : ∃ a, as[i]? = some a ∧ Rel H y a := by
  have hl := (List.getElem?_eq_some_iff.mp hi).1
  have hv : i < as.length := by rw [← h.1]; exact hl
  exact ⟨as[i], List.getElem?_eq_getElem hv, h.2 i _ _ hi (List.getElem?_eq_getElem hv)⟩
section
variable {T : List (Addr × Str)} {J : It} {n : Nat} {G : Hp → Prop} {Y : Nat → Hp → V → Hp → Prop} {α : Type} {Rel : Hp → V → α → Prop}
/-- [.. for x in walked if ..]: the i-th gives c i, or is left out -/
theorem lc_gen (w : Walk J n G Y) (st : ∀ H H' v x, Rel H v x → Ext H H' → Rel H' v x) {g : TG} {tt : TT} {te : TE} {vs : List Nat} {σ : L2.St} {H1 : Hp} {D : Addr} {Qd : Hp → Prop} (c : Nat → Option α) (hn : n ≤ 1000) (hT : Tabs T H1) (hD : H1 D = none) (hG : ∀ H, Ext H1 H → G H)
    (hs : ∀ (i : Nat) (x : V) (H H' : Hp) (acc : List V) (Qt : VK) (Qf : Hp → Prop), i < n → Ext H1 H → Tabs T H → H D = some (.lst acc) → Y i H x H' →
      (∀ y H4 a, c i = some a → Ext H H4 → Tabs T H4 → Rel (del H4 D) y a → Qt y H4) → (∀ H3, c i = none → Ext H H3 → Tabs T H3 → Qf H3) →
      g x (wipe σ vs) H' fun σ2 H2 => wipe σ2 vs = wipe σ vs ∧ tt σ2 H2 fun b H3 => if b = true then te σ2 H3 Qt else Qf H3)
    (hd : ∀ H ys, Ext H1 H → Tabs T H → H D = some (.lst ys) → Rels Rel (del H D) ys ((List.range n).filterMap c) → Qd H) :
    ∃ W : Nat → Nat → Hp → Prop, (∃ m, W 0 m (upd H1 D (.lst []))) ∧ ∀ i m H, W i m H →
      (J.stop i H ∧ Qd H) ∨ (J.go i H ∧ ∃ Nx : Hp → Prop, (∀ H', Nx H' → ∃ m', m' < m ∧ W (i + 1) m' H') ∧ ∀ x H', J.yld i H x H' → g x (wipe σ vs) H' fun σ2 H2 => wipe σ2 vs = wipe σ vs ∧ tt σ2 H2 fun b H3 =>
        if b = true then te σ2 H3 fun y H4 => ∃ acc, H4 D = some (.lst acc) ∧ acc.length < sizeLine ∧ Nx (upd H4 D (.lst (acc ++ [y]))) else Nx H3) := by
  refine lc_it w (fun i H => ∃ ys, Ext H1 H ∧ Tabs T H ∧ H D = some (.lst ys) ∧ Rels Rel (del H D) ys ((List.range i).filterMap c) ∧ ys.length ≤ i) ⟨[], Ext.new hD, hT.same (Same.new hD), upd_same, Rels.nil, Nat.le_refl _⟩ (fun i H _ ⟨ys, x1, _⟩ => hG H x1) (fun i x H H' hi ⟨ys, x1, t1, d1, r1, l1⟩ hy => ?_) (fun H ⟨ys, x1, t1, d1, r1, l1⟩ => hd H ys x1 t1 d1 r1)
  refine hs i x H H' ys _ _ hi x1 t1 d1 hy (fun y H4 a ec x4 t4 r4 => ?_) (fun H3 ec x3 t3 => ?_)
  · have d4 := x4.lst d1
    refine ⟨ys, d4, small1000 (by omega), ys ++ [y], ext_writeF (x1.trans x4) (fun o e => by rw [hD] at e; cases e), t4.lst d4, upd_same, ?_, by simp; omega⟩
    rw [del_upd, List.range_succ, List.filterMap_append]
    have e : [i].filterMap c = [a] := by simp [ec]
    rw [e]
    exact (r1.ext st (del_ext x4)).snoc r4
  · refine ⟨ys, x1.trans x3, t3, x3.lst d1, ?_, by omega⟩
    rw [List.range_succ, List.filterMap_append]
    have e : [i].filterMap c = [] := by simp [ec]
    rw [e, List.append_nil]
    exact r1.ext st (del_ext x3)
theorem del_new {H H' : Hp} {D p : Addr} {u o : HO} (h : H D = some u) (n : H p = none) (e : H' p = some o) : del H' D p = some o := by
  rw [del_ne (fun z => by rw [z, h] at n; cases n)]
  exact e
/-- [.. for x in walked for y in walked] -/
theorem lc2_gen (w : Walk J n G Y) (st : ∀ H H' v x, Rel H v x → Ext H H' → Rel H' v x) {g g1 : TG} {wi1 : TI} {te : TE} {vs vs1 : List Nat} {σ : L2.St} {H1 : Hp} {D : Addr} {Qd : Hp → Prop} (n1 : Nat → Nat) (f : Nat → Nat → α) (hn : ((List.range n).flatMap fun i => (List.range (n1 i)).map (f i)).length ≤ 100000) (hT : Tabs T H1) (hD : H1 D = none) (hG : ∀ H, Ext H1 H → G H)
    (hs : ∀ (i : Nat) (x : V) (H H' : Hp) (acc : List V) (Kk : L2.St → It → Hp → Prop), i < n → Ext H1 H → Tabs T H → H D = some (.lst acc) → Y i H x H' →
      (∀ (σ2 : L2.St) (J1 : It) (H4 : Hp) (G1 : Hp → Prop) (Y1 : Nat → Hp → V → Hp → Prop), Ext H H4 → Tabs T H4 → Walk J1 (n1 i) G1 Y1 → (∀ H, Ext H1 H → G1 H) →
        (∀ (j : Nat) (x : V) (H5 H' : Hp) (acc : List V) (Qt : VK), j < n1 i → Ext H1 H5 → Tabs T H5 → H5 D = some (.lst acc) → Y1 j H5 x H' → (∀ y H6, Ext H5 H6 → Tabs T H6 → Rel (del H6 D) y (f i j) → Qt y H6) → g1 x (wipe σ2 vs1) H' fun σ3 H5 => wipe σ3 vs1 = wipe σ2 vs1 ∧ te σ3 H5 Qt) → Kk σ2 J1 H4) →
      g x (wipe σ vs) H' fun σ2 H2 => wipe σ2 vs = wipe σ vs ∧ wi1 σ2 H2 (Kk σ2))
    (hd : ∀ H ys, Ext H1 H → Tabs T H → H D = some (.lst ys) → Rels Rel (del H D) ys ((List.range n).flatMap fun i => (List.range (n1 i)).map (f i)) → Qd H) :
    ∃ W : Nat → Nat → Hp → Prop, (∃ m, W 0 m (upd H1 D (.lst []))) ∧ ∀ i m H, W i m H →
  (J.stop i H ∧ Qd H) ∨ (J.go i H ∧ ∃ Nx : Hp → Prop, (∀ H', Nx H' → ∃ m', m' < m ∧ W (i + 1) m' H') ∧ ∀ x H', J.yld i H x H' → g x (wipe σ vs) H' fun σ2 H2 => wipe σ2 vs = wipe σ vs ∧ tYes σ2 H2 fun b H3 =>
    if b = true then wi1 σ2 H3 fun J1 H4 => ∃ W1 : Nat → Nat → Hp → Prop, (∃ m, W1 0 m H4) ∧ ∀ j k H, W1 j k H →
      (J1.stop j H ∧ Nx H) ∨ (J1.go j H ∧ ∃ Nx1 : Hp → Prop, (∀ H', Nx1 H' → ∃ k', k' < k ∧ W1 (j + 1) k' H') ∧ ∀ x H', J1.yld j H x H' → g1 x (wipe σ2 vs1) H' fun σ3 H5 => wipe σ3 vs1 = wipe σ2 vs1 ∧ tYes σ3 H5 fun b H6 =>
        if b = true then te σ3 H6 fun y H7 => ∃ acc, H7 D = some (.lst acc) ∧ acc.length < sizeLine ∧ Nx1 (upd H7 D (.lst (acc ++ [y]))) else Nx1 H6)
    else Nx H3) := by
  have inc : ∀ (i j : Nat), i < n → j ≤ n1 i → ((List.range i).flatMap fun i => (List.range (n1 i)).map (f i)).length + j ≤ 100000 := fun i j hi hj => by
    have e1 : ∀ k, i + 1 + k = n → ((List.range i).flatMap fun i => (List.range (n1 i)).map (f i)).length + n1 i ≤ ((List.range n).flatMap fun i => (List.range (n1 i)).map (f i)).length := fun k hk => by
      have h1 : ∀ k, ((List.range (i + 1)).flatMap fun i => (List.range (n1 i)).map (f i)).length ≤ ((List.range (i + 1 + k)).flatMap fun i => (List.range (n1 i)).map (f i)).length := fun k => by
        induction k with
        | zero => exact Nat.le_refl _
        | succ k ih =>
          rw [← Nat.add_assoc, List.range_succ (n := i + 1 + k), List.flatMap_append, List.length_append]
          omega
      have h2 := h1 k
      rw [hk, List.range_succ, List.flatMap_append, List.length_append] at h2
      simp at h2
      simpa using h2
    have := e1 (n - (i + 1)) (by omega)
    omega
  refine ⟨fun i m H => m = n - i ∧ i ≤ n ∧ ∃ ys, Ext H1 H ∧ Tabs T H ∧ H D = some (.lst ys) ∧ Rels Rel (del H D) ys ((List.range i).flatMap fun i => (List.range (n1 i)).map (f i)), ⟨n, by simp, Nat.zero_le _, [], Ext.new hD, hT.same (Same.new hD), upd_same, Rels.nil⟩, ?_⟩
  rintro i m H ⟨rfl, hi, ys, x1, t1, d1, r1⟩
  by_cases hlt : i < n
  · refine .inr ⟨w.goes i H hlt (hG H x1), fun H' => ∃ ys, Ext H1 H' ∧ Tabs T H' ∧ H' D = some (.lst ys) ∧ Rels Rel (del H' D) ys ((List.range (i + 1)).flatMap fun i => (List.range (n1 i)).map (f i)), fun H' p' => ⟨n - (i + 1), by omega, rfl, hlt, p'⟩, fun x H' y => ?_⟩
    refine hs i x H H' ys _ hlt x1 t1 d1 (w.yields i H x H' hlt (hG H x1) y) fun σ2 J1 H4 G1 Y1 x4 t4 w1 hG1 hin => ?_
    refine ⟨fun j k H5 => k = n1 i - j ∧ j ≤ n1 i ∧ ∃ ys, Ext H1 H5 ∧ Tabs T H5 ∧ H5 D = some (.lst ys) ∧ Rels Rel (del H5 D) ys (((List.range i).flatMap fun i => (List.range (n1 i)).map (f i)) ++ (List.range j).map (f i)), ⟨n1 i, by simp, Nat.zero_le _, ys, x1.trans x4, t4, x4.lst d1, by simpa using r1.ext st (del_ext x4)⟩, ?_⟩
    rintro j k H5 ⟨rfl, hj, ys5, x5, t5, d5, r5⟩
    by_cases hlt1 : j < n1 i
    · refine .inr ⟨w1.goes j H5 hlt1 (hG1 H5 x5), fun H6 => ∃ ys, Ext H1 H6 ∧ Tabs T H6 ∧ H6 D = some (.lst ys) ∧ Rels Rel (del H6 D) ys (((List.range i).flatMap fun i => (List.range (n1 i)).map (f i)) ++ (List.range (j + 1)).map (f i)), fun H6 p' => ⟨n1 i - (j + 1), by omega, rfl, hlt1, p'⟩, fun x H6 y => ?_⟩
      refine hin j x H5 H6 ys5 _ hlt1 x5 t5 d5 (w1.yields j H5 x H6 hlt1 (hG1 H5 x5) y) fun y H7 x7 t7 r7 => ?_
      have d7 := x7.lst d5
      have hlen : ys5.length ≤ 100000 := by
        have := inc i j hlt (by omega)
        have e := r5.1
        simp at e
        simp at this
        omega
      refine ⟨ys5, d7, Nat.lt_of_le_of_lt hlen (by decide), ys5 ++ [y], ext_writeF (x5.trans x7) (fun o e => by rw [hD] at e; cases e), t7.lst d7, upd_same, ?_⟩
      rw [del_upd, List.range_succ (n := j), List.map_append, ← List.append_assoc]
      exact (r5.ext st (del_ext x7)).snoc r7
    · have e : j = n1 i := by omega
      subst e
      refine .inl ⟨w1.stops H5 (hG1 H5 x5), ys5, x5, t5, d5, ?_⟩
      rw [List.range_succ (n := i), List.flatMap_append]
      simpa using r5
  · have e : i = n := by omega
    subst e
    exact .inl ⟨w.stops H (hG H x1), hd H ys x1 t1 d1 r1⟩
end
end PM
namespace PM
open PySem PySem.Spec PyProof.Rows L2 GenW
theorem either_read {K : PySem.W.Frag} {σ : L2.St} {H : Hp} {R : It → Hp → Prop} {b : Addr} {vl : List V} {i : Nat} (hσ : σ[i]? = some (some (.ref b))) (h : SqL K H b vl ∨ SqT K H b vl)
    (k : ∀ (J : It) (G : Hp → Prop), Walk J vl.length G (YAt vl) → (∀ H', Ext H H' → G H') → R J H) : iList K (tVar i) σ H R ∨ iTup K (tVar i) σ H R := by
  rcases h with h | h
  · exact .inl ⟨.ref b, hσ, b, rfl, ⟨_, h⟩, k _ _ walk_list fun H' e => e.seqL h⟩
  · exact .inr ⟨.ref b, hσ, b, rfl, ⟨_, h⟩, k _ _ walk_tup fun H' e => e.seqT h⟩
theorem SofT.vl {K : PySem.W.Frag} {H : Hp} {b : Addr} {L : List (List Int)} (h : SofT K H b L) : ∃ vl, (SqL K H b vl ∨ SqT K H b vl) ∧ TupsI K H vl L := by
  rcases h with ⟨vl, h1, h2⟩ | ⟨vl, h1, h2⟩
  · exact ⟨vl, .inl h1, h2⟩
  · exact ⟨vl, .inr h1, h2⟩
/-- a whole number -/
def IntR : Hp → V → Int → Prop := fun _ v n => v = .int n
theorem IntR.st : ∀ H H' v x, IntR H v x → Ext H H' → IntR H' v x := fun _ _ _ _ h _ => h
theorem rels_ints {H : Hp} : ∀ {ys : List V} {ns : List Int}, Rels IntR H ys ns → ys = ns.map V.int
  | [], [], _ => rfl
  | [], n :: ns, h => by have := h.1; simp at this
  | y :: ys, [], h => by have := h.1; simp at this
  | y :: ys, n :: ns, h => by
    have e1 : y = .int n := h.2 0 y n rfl rfl
    have e2 := rels_ints (ys := ys) (ns := ns) (H := H) ⟨by simpa using h.1, fun i y' n' a b => h.2 (i + 1) y' n' a b⟩
    rw [e1, e2]
    rfl
theorem eqv_intsL : ∀ a b : List Int, PyData.eqv (.list (a.map PyData.int)) (.list (b.map PyData.int)) = decide (a = b) := by
  have h : ∀ a b : List Int, PyData.eqvAll (a.map PyData.int) (b.map PyData.int) = decide (a = b) := by
    intro a
    induction a with
    | nil => intro b; cases b <;> simp [PyData.eqvAll]
    | cons x a ih =>
      intro b
      cases b with
      | nil => simp [PyData.eqvAll]
      | cons y b =>
        simp only [List.map_cons, PyData.eqvAll, ih b, PyData.eqv]
        by_cases e : x = y
        · subst e
          simp
        · have : (x == y) = false := by simpa using e
          rw [this]
          simp [e]
  intro a b
  simp only [PyData.eqv]
  exact h a b
theorem upto_sorted (m : Nat) : (upto m).Pairwise (· ≤ ·) := by
  unfold upto
  rw [List.pairwise_map]
  refine List.Pairwise.imp ?_ List.pairwise_lt_range
  intro a b h
  omega
theorem upto_len (m : Nat) : (upto m).length = m := by simp [upto]
theorem flat_range (L : List (List Int)) : ((List.range L.length).flatMap fun i => (List.range (L.getD i []).length).map fun j => (L.getD i []).getD j 0) = L.flatten := by
  have h1 : ∀ l : List Int, (List.range l.length).map (fun j => l.getD j 0) = l := fun l => by
    apply List.ext_getElem
    · simp
    · intro i h1 h2
      simp [h2]
  have h2 : ∀ {β : Type} (f : List Int → List β) (L : List (List Int)), ((List.range L.length).flatMap fun i => f (L.getD i [])) = L.flatMap f := fun {β} f L => by
    have : (List.range L.length).map (fun i => L.getD i []) = L := by
      apply List.ext_getElem
      · simp
      · intro i h1 h2
        simp [h2]
    conv => rhs; rw [← this]
    rw [List.flatMap_map]
  rw [h2 (fun l => (List.range l.length).map fun j => l.getD j 0)]
  simp only [h1]
  simp [List.flatMap_id']
abbrev sGiven : Stmt := topS 22
theorem scGiven : FnScope ["rows", "lots", "things", "lot", "thing"] ["rows", "lots"] (defScope sGiven) := ⟨rfl, rfl, rfl, by decide +kernel, rfl, by decide +kernel, by decide +kernel⟩
section
variable {P : Program} {w : World} {K : PySem.W.Frag} {mg : Str → Option Value} {base : Heap} {T : List (Addr × Str)}
def spGiven (K : PySem.W.Frag) (T : List (Addr × Str)) : Sp := fun vs H Q _ => ∃ (a b : Addr) (R L : List (List Int)) (n m : Nat), vs = [.ref a, .ref b] ∧ LofT K H a R ∧ SofT K H b L ∧ 0 < n ∧ n ≤ 1000 ∧ m ≤ 1000 ∧ RowsOk R n m ∧ L.length = n ∧ L.flatten.length ≤ 100000 ∧ Tabs T H ∧
  (L.flatten.Perm (upto m) → ∀ H', Ext H H' → Tabs T H' → Q (.bl true) H') ∧ (¬ L.flatten.Perm (upto m) → ∀ H', Ext H H' → Tabs T H' → Q (.bl false) H')
theorem ok_given {f : Addr} {fd : FuncData} {k : Nat} (F : Fun K "all_given" "all_given" sGiven f fd) (mr : mg "range" = none) (ml : mg "len" = none) (ms : mg "sorted" = none) (mli : mg "list" = none) : FnOk P w K mg base CX0 (k + 1) f fd ["rows", "lots"] (spGiven K T) := by
  refine okC F scGiven (fun vs H Q E h => ?_) (fun cdv hcd A outer s H vs Q E hr h => ?_)
  · obtain ⟨a, b, R, L, n, m, rfl, _⟩ := h
    rfl
  · obtain ⟨a, b, R, L, n, m, rfl, ⟨vr, hR, tR⟩, hLL, hpos, hn, hm, ok, hl, hfl, hT, qt, qf⟩ := h
    obtain ⟨vl, hL, tL⟩ := hLL.vl
    have hvl : vl.length = L.length := tL.1
    refine ⟨_, pss_cons (ps_set (i := 2) scGiven.nd rfl (Or.inl rfl) (pe_callB cr_sortedI (by rfl) ms (by decide +kernel) (pa_cons
        (pe_lc2 (own := [("lot", 3), ("thing", 4)]) (vs1 := [4]) (g := gName 3) (g1 := gName 4) (tt := tYes) (tt1 := tYes) (wi1 := iTup K (tVar 3)) rfl scGiven.nd (PI.either (pi_list (pv 1)) (pi_tup (pv 1))) (blkOk_by (N := ["rows", "lots", "things", "lot", "thing"]) (sc := defScope sGiven) (by decide +kernel)) (by decide)
          (fun _ _ _ _ _ => pg_name (i := 3) scGiven.nd rfl (Or.inl rfl)) (fun _ _ _ _ _ => pts_nil) (fun _ _ _ _ _ => pi_tup (pv 3)) (fun _ _ _ _ _ => pg_name (i := 4) scGiven.nd rfl (Or.inl rfl)) (fun _ _ _ _ _ => pts_nil) (fun _ _ _ _ _ => pv 4)) pa_nil)))
      (pss_one (ps_ret (pe_and (pe_cmpR (op_eqD hr.units) (pv 2) (pe_listRg rfl (by rfl) mli (prg_1 (by rfl) mr (pe_ifExp (pt_cmpR op_gt (pe_callB (cr_len rfl) (by rfl) ml PySem.boot_len (pa_cons (pv 0) pa_nil)) pe_int (nomark _)) (pe_callB (cr_len rfl) (by rfl) ml PySem.boot_len (pa_cons (pe_ix ix_list (pv 0) pe_int (fun _ _ => rfl)) pa_nil)) pe_int))) (nomark _))
        (pe_one (pe_cmpR op_eq (pe_callB (cr_len rfl) (by rfl) ml PySem.boot_len (pa_cons (pv 1) pa_nil)) (pe_callB (cr_len rfl) (by rfl) ml PySem.boot_len (pa_cons (pv 0) pa_nil)) (nomark _)))))), ?_⟩
    refine either_read (b := b) rfl hL fun J G wk hG D hD => ?_
    refine lc2_gen (T := T) wk IntR.st (fun i => (L.getD i []).length) (fun i j => (L.getD i []).getD j 0) ?_ hT hD hG (fun i x H1 H' acc Kk hi x1 t1 d1 y hk => ?_) (fun H1 ys x1 t1 d1 r1 => ?_)
    · rw [hvl, flat_range]
      exact hfl
    · obtain ⟨rfl, hx⟩ := y
      have hiL : i < L.length := by omega
      obtain ⟨p, rfl, hp⟩ := tL.2 i x _ hx (List.getElem?_eq_getElem hiL)
      have eL : L.getD i [] = L[i] := getD_at hiL
      refine ⟨rfl, .ref p, rfl, p, rfl, ⟨_, x1.seqT hp⟩, hk _ _ _ _ _ (Ext.refl _) t1 (by
        have wt := walk_tup (K := K) (a := p) (xs := L[i].map V.int)
        rw [List.length_map, ← eL] at wt
        exact wt) (fun H5 x5 => by rw [eL]; exact x5.seqT hp) fun j x2 H5 H6 acc2 Qt hj x5 t5 d5 y2 hq => ?_⟩
      obtain ⟨rfl, hx2⟩ := y2
      refine ⟨rfl, x2, rfl, hq _ _ (Ext.refl _) t5 ?_⟩
      rw [eL] at hx2 ⊢
      have hj' : j < L[i].length := by rw [eL] at hj; exact hj
      rw [List.getElem?_map, List.getElem?_eq_getElem hj'] at hx2
      obtain rfl := Option.some.inj hx2
      show V.int L[i][j] = .int (L[i].getD j 0)
      simp [hj']
    · rw [hvl, flat_range] at r1
      have eys := rels_ints r1
      subst eys
      refine ⟨D, L.flatten, rfl, SqL.of d1, fun ns' p perm srt hp => ?_⟩
      have x2 : Ext H1 (upd H1 p (.lst (ns'.map V.int))) := Ext.new hp
      have t2 : Tabs T (upd H1 p (.lst (ns'.map V.int))) := t1.same (Same.new hp)
      have x02 := x1.trans x2
      have hvr : vr.length = n := by rw [tR.1, ok.len]
      have h0 : 0 < R.length := by rw [ok.len]; exact hpos
      obtain ⟨v0, ev0, tv0⟩ := tR.get h0
      obtain ⟨p0, rfl, hp0⟩ := tv0
      have hr0 : R[0].length = m := (ok.row _ (List.getElem_mem h0)).1
      refine ⟨.ref p, rfl, .ref a, rfl, a, vr, rfl, .inl (x02.seqL hR), _, _, rfl, rfl, _, rfl, ?_⟩
      have e0 : decide ((0 : Int) < (vr.length : Nat)) = true := decide_eq_true (by omega)
      rw [e0]
      refine iteT ⟨.ref a, rfl, a, vr, 0, .ref p0, rfl, rfl, x02.seqL hR, atI_nat (j := 0) ev0, p0, _, rfl, .inr (x02.seqT hp0), _, rfl, ?_⟩
      rw [List.length_map, hr0]
      refine ⟨RgOk.of_le (by omega) (by omega) (by omega) (by omega), fun p2 hp2 => ?_⟩
      rw [rgV_upto]
      have x3 : Ext (upd H1 p (.lst (ns'.map V.int))) (upd (upd H1 p (.lst (ns'.map V.int))) p2 (.lst ((upto m).map V.int))) := Ext.new hp2
      have t3 := t2.same (Same.new (o := .lst ((upto m).map V.int)) hp2)
      have x03 := x02.trans x3
      refine ⟨_, _, .lst (SqL.of (x3.lst upd_same)) (dpInts ns'), .lst (SqL.of upd_same) (dpInts (upto m)), shapedIntsL _, shapedIntsL _, _, rfl, ?_⟩
      rw [eqv_intsL]
      by_cases hpm : L.flatten.Perm (upto m)
      · have e : ns' = upto m := List.Perm.eq_of_pairwise (fun a b _ _ h1 h2 => by omega) srt (upto_sorted m) (perm.trans hpm)
        rw [decide_eq_true e]
        have hLx : SqL K _ b vl ∨ SqT K _ b vl := hL.imp x03.seqL x03.seqT
        refine iteT ⟨.ref b, rfl, b, vl, rfl, hLx, .ref a, rfl, a, vr, rfl, .inl (x03.seqL hR), rfl, ?_⟩
        have e2 : decide (V.int ((vl.length : Nat) : Int) = V.int ((vr.length : Nat) : Int)) = true := decide_eq_true (by rw [hvl, hl, hvr])
        rw [e2]
        exact qt hpm _ x03 t3
      · have e : ns' ≠ upto m := fun z => hpm (by rw [← z]; exact perm.symm)
        rw [decide_eq_false e]
        exact iteF (qf hpm _ x03 t3)
end
end PM
namespace PM
open PySem PySem.Spec PyProof.Rows L2 GenW
abbrev sLeast : Stmt := topS 23
theorem scLeast : FnScope ["rows", "lots", "row", "lot"] ["rows", "lots"] (defScope sLeast) := ⟨rfl, rfl, rfl, by decide +kernel, rfl, by decide +kernel, by decide +kernel⟩
def worths (R L : List (List Int)) : List Int := (List.range R.length).map fun i => W (R.getD i []) (L.getD i [])
theorem filterMap_some {α β : Type} (f : α → β) (l : List α) : l.filterMap (fun x => some (f x)) = l.map f := by
  induction l with
  | nil => rfl
  | cons a l ih => simp [ih]
section
variable {P : Program} {w : World} {K : PySem.W.Frag} {mg : Str → Option Value} {base : Heap} {T : List (Addr × Str)}
def spLeast (K : PySem.W.Frag) (T : List (Addr × Str)) : Sp := fun vs H Q _ => ∃ (a b : Addr) (R L : List (List Int)) (m : Nat), vs = [.ref a, .ref b] ∧ LofT K H a R ∧ LofT K H b L ∧ Fits R L m ∧ 0 < R.length ∧ R.length ≤ 1000 ∧ Tabs T H ∧
  ∀ (x : Int) (H' : Hp), x ∈ worths R L → (∀ y ∈ worths R L, x ≤ y) → Ext H H' → Tabs T H' → Q (.int x) H'
theorem ok_least {f fW : Addr} {fd fdW : FuncData} {k : Nat} (F : Fun K "least_worth" "least_worth" sLeast f fd) (mm : mg "min" = none) (mz : mg "zip" = none)
    (FW : Fun K "worth" "worth" sWorth fW fdW) (bW : Binds K fdW ["row", "things"] []) (gW : mg "worth" = some (.ref fW)) (GW : FnOk P w K mg base CX0 (k + 4) fW fdW ["row", "things"] (spWorth K T)) :
    FnOk P w K mg base CX0 (k + 5) f fd ["rows", "lots"] (spLeast K T) := by
  refine okC F scLeast (fun vs H Q E h => ?_) (fun cdv hcd A outer s H vs Q E hr h => ?_)
  · obtain ⟨a, b, R, L, m, rfl, _⟩ := h
    rfl
  · obtain ⟨a, b, R, L, m, rfl, ⟨vr, hR, tR⟩, ⟨vl, hL, tL⟩, fit, hpos, hn, hT, q⟩ := h
    refine ⟨_, pss_one (ps_ret (pe_callBK (cr_minDef rfl (by
        have := hr.units
        show (A.deeper (envOfC "least_worth" (defScope sLeast) s.heap.objs.size f cdv)).units + 3 < cLine
        omega)) (by rfl) mm (by decide +kernel) (pa_cons
      (pe_lc (own := [("row", 2), ("lot", 3)]) (tt := tYes) (g := gTup K 2 (gCons (gName 2) (gCons (gName 3) gNil))) rfl scLeast.nd (pi_zip (by rfl) mz (pa_cons (pv 0) (pa_cons (pv 1) pa_nil))) (blkOk_by (N := ["rows", "lots", "row", "lot"]) (sc := defScope sLeast) (by decide +kernel))
        (fun _ _ _ _ _ => pg_tup rfl (pgs_cons (pg_name (i := 2) scLeast.nd rfl (Or.inl rfl)) (pgs_cons (pg_name (i := 3) scLeast.nd rfl (Or.inl rfl)) pgs_nil))) (fun _ _ _ _ _ => pts_nil)
        (fun _ _ _ _ _ => pe_call GW hr (by rfl) gW FW.kp bW .nil pass0 (pa_cons (pv 2) (pa_cons (pv 3) pa_nil)))) pa_nil) (pk_cons pe_int pk_nil))), ?_⟩
    have hvr : vr.length = R.length := tR.1
    have hvl : vl.length = R.length := by rw [tL.1, fit.len]
    refine ⟨.ref a, rfl, .ref b, rfl, a, b, vr, vl, rfl, hR, hL, fun D hD => ?_⟩
    refine lc_gen (T := T) (walk_zip (n := R.length) (by rw [hvr, hvl, Nat.min_self])) IntR.st (fun i => some (W (R.getD i []) (L.getD i []))) hn hT hD (fun H1 x1 => ⟨x1.seqL hR, x1.seqL hL⟩) (fun i x H1 H' acc Qt Qf hi x1 t1 d1 y hq _ => ?_) (fun H1 ys x1 t1 d1 r1 => ?_)
    · obtain ⟨Tp, v1, v2, rfl, hTp, rfl, e1, e2⟩ := y
      have hiL : i < L.length := by rw [fit.len]; exact hi
      have tr := tR.2 i v1 _ e1 (List.getElem?_eq_getElem hi)
      have tl := tL.2 i v2 _ e2 (List.getElem?_eq_getElem hiL)
      have x2 : Ext H1 (upd H1 Tp (.tup [v1, v2])) := Ext.new hTp
      refine ⟨Tp, _, rfl, .inl (.inl upd_same), rfl, v1, [v2], rfl, v2, [], rfl, rfl, rfl, v1, rfl, v2, rfl, ?_⟩
      refine ⟨v1, v2, R[i], L[i], rfl, tr.ext (x1.trans x2), tl.ext (x1.trans x2), fit.lot hi hiL, t1.same (Same.new hTp), fun H3 x3 t3 => ?_⟩
      refine hq _ _ _ rfl (x2.trans x3) t3 ?_
      show V.int _ = V.int _
      rw [getD_at hi, getD_at hiL]
    · rw [filterMap_some] at r1
      have eys := rels_ints r1
      subst eys
      refine ⟨D, worths R L, 0, rfl, rfl, SqL.of d1, fun z => ?_, fun x hx hmin => q x H1 hx hmin x1 t1⟩
      have := congrArg List.length z
      simp [worths] at this
      rw [this] at hpos
      exact Nat.lt_irrefl _ hpos
/-! ### put_on -/
abbrev sPut : Stmt := topS 24
theorem scPut : FnScope ["sums", "place", "much"] ["sums", "place", "much"] (defScope sPut) := ⟨rfl, rfl, rfl, by decide +kernel, rfl, by decide +kernel, by decide +kernel⟩
def putOn (s : List Int) (p : Nat) (x : Int) : List Int := s.take p ++ [s.getD p 0 + x] ++ s.drop (p + 1)
def spPut (K : PySem.W.Frag) : Sp := fun vs H Q _ => ∃ (a : Addr) (s : List Int) (p : Nat) (x : Int), vs = [.ref a, .int (p : Nat), .int x] ∧ SqL K H a (s.map V.int) ∧ p < s.length ∧ s.length ≤ 1000 ∧
  ∀ (H' : Hp) (q : Addr), H q = none → Same H H' → H' q = some (.lst ((putOn s p x).map V.int)) → Q (.ref q) H'
theorem ok_put {f : Addr} {fd : FuncData} {k : Nat} (F : Fun K "put_on" "put_on" sPut f fd) : FnOk P w K mg base CX0 (k + 1) f fd ["sums", "place", "much"] (spPut K) := by
  refine okC F scPut (fun vs H Q E h => ?_) (fun cdv hcd A outer s H vs Q E hr h => ?_)
  · obtain ⟨a, sm, p, x, rfl, _⟩ := h
    rfl
  · obtain ⟨a, sm, p, x, rfl, hS, hp, hl, q⟩ := h
    refine ⟨_, pss_one (ps_ret (pe_op op_cat (pe_op op_cat (pe_slice sl_list (pv 0) po_none (po_some (pv 1))) (pe_lst (pa_cons (pe_op op_add (pe_ix ix_list (pv 0) (pv 1) (fun _ _ => rfl)) (pv 2)) pa_nil))) (pe_slice sl_list (pv 0) (po_some (pe_op op_add (pv 1) pe_int)) po_none))), ?_⟩
    refine ⟨.ref a, rfl, .int p, rfl, (p : Nat), rfl, a, _, rfl, hS, fun p1 hp1 => ?_⟩
    rw [cut_take]
    have s1 : Same H (upd H p1 (.lst ((sm.map V.int).take p))) := Same.new hp1
    have g : (sm.map V.int)[p]? = some (.int sm[p]) := by rw [List.getElem?_map, List.getElem?_eq_getElem hp]; rfl
    refine ⟨.ref a, rfl, .int p, rfl, a, _, (p : Nat), _, rfl, rfl, Same.seq s1 hS, atI_nat g, .int x, rfl, _, _, rfl, rfl, by show 1 ≤ sizeLine; decide, fun p2 hp2 => ?_⟩
    have n12 : p1 ≠ p2 := fun z => by rw [← z, upd_same] at hp2; cases hp2
    have s2 := Same.trans s1 (Same.new (o := .lst [.int (sm[p] + x)]) hp2)
    refine ⟨p1, p2, _, _, rfl, rfl, by rw [upd_ne n12, upd_same], upd_same, ?_, fun p3 hp3 => ?_⟩
    · simp only [List.length_take, List.length_map, List.length_cons, List.length_nil]
      have := small1000 (n := sm.length) hl
      omega
    have s3 := Same.trans s2 (Same.new (o := .lst ((sm.map V.int).take p ++ [.int (sm[p] + x)])) hp3)
    refine ⟨.ref a, rfl, .int p, rfl, _, _, rfl, rfl, _, rfl, a, _, rfl, Same.seq s3 hS, fun p4 hp4 => ?_⟩
    have ep : ((p : Nat) : Int) + 1 = ((p + 1 : Nat) : Int) := by omega
    rw [ep, cut_drop]
    have n34 : p3 ≠ p4 := fun z => by rw [← z, upd_same] at hp4; cases hp4
    have s4 := Same.trans s3 (Same.new (o := .lst ((sm.map V.int).drop (p + 1))) hp4)
    refine ⟨p3, p4, _, _, rfl, rfl, by rw [upd_ne n34, upd_same], upd_same, ?_, fun p5 hp5 => ?_⟩
    · simp only [List.length_append, List.length_take, List.length_drop, List.length_map, List.length_cons, List.length_nil]
      have := small1000 (n := sm.length) hl
      omega
    refine q _ p5 (Same.free s4 hp5) (Same.trans s4 (Same.new hp5)) ?_
    rw [upd_same]
    unfold putOn
    simp [List.map_append, List.map_take, List.map_drop, hp]
end
end PM
namespace PM
open PySem PySem.Spec PyProof.Rows L2 GenW
abbrev sFair : Stmt := topS 25
theorem scFair : FnScope ["rows", "one", "row", "many", "best", "ways", "worth_of_one", "sums", "place"] ["rows", "one"] (defScope sFair) := ⟨rfl, rfl, rfl, by decide +kernel, rfl, by decide +kernel, by decide +kernel⟩
/-- the ways of giving, by what each has -/
def waysN (n : Nat) : List Int → List (List Int)
  | [] => [List.replicate n 0]
  | row => (waysR n row.reverse)
where waysR (n : Nat) : List Int → List (List Int)
  | [] => [List.replicate n 0]
  | x :: r => (waysR n r).flatMap fun s => (List.range n).map fun p => putOn s p x
theorem waysN_eq (n : Nat) (row : List Int) : waysN n row = waysN.waysR n row.reverse := by
  cases row <;> rfl
theorem waysN_snoc (n : Nat) (row : List Int) (x : Int) : waysN n (row ++ [x]) = (waysN n row).flatMap fun s => (List.range n).map fun p => putOn s p x := by
  rw [waysN_eq, waysN_eq, List.reverse_append]
  rfl
theorem putOn_len {s : List Int} {p : Nat} {x : Int} (h : p < s.length) : (putOn s p x).length = s.length := by
  unfold putOn
  simp
  omega
theorem waysR_ok {n : Nat} : ∀ (row : List Int), (∀ x ∈ row, 0 ≤ x) → ∀ s ∈ waysN.waysR n row, s.length = n ∧ ∀ x ∈ s, 0 ≤ x
  | [], _, s, hs => by
    have : s = List.replicate n 0 := by simpa [waysN.waysR] using hs
    subst this
    exact ⟨by simp, fun x hx => by have := List.eq_of_mem_replicate hx; omega⟩
  | x :: r, h, s, hs => by
    obtain ⟨s0, h0, hs⟩ := List.mem_flatMap.mp hs
    obtain ⟨p, hp, rfl⟩ := List.mem_map.mp hs
    have hp := List.mem_range.mp hp
    obtain ⟨l0, n0⟩ := waysR_ok r (fun y hy => h y (List.mem_cons_of_mem _ hy)) s0 h0
    refine ⟨by rw [putOn_len (by omega), l0], fun y hy => ?_⟩
    unfold putOn at hy
    rcases List.mem_append.mp hy with z | z
    · rcases List.mem_append.mp z with z | z
      · exact n0 y (List.mem_of_mem_take z)
      · have e : y = s0.getD p 0 + x := by simpa using z
        have hpl : p < s0.length := by omega
        have := n0 (s0.getD p 0) (by simp [hpl])
        have := h x List.mem_cons_self
        omega
    · exact n0 y (List.mem_of_mem_drop z)
theorem waysN_ok {n : Nat} {row : List Int} (h : ∀ x ∈ row, 0 ≤ x) : ∀ s ∈ waysN n row, s.length = n ∧ ∀ x ∈ s, 0 ≤ x := by
  rw [waysN_eq]
  exact waysR_ok _ fun x hx => h x (List.mem_reverse.mp hx)
theorem flat_len {α : Type} (n : Nat) (l : List α) {β : Type} (f : α → Nat → β) : (l.flatMap fun s => (List.range n).map fun p => f s p).length = l.length * n := by
  induction l with
  | nil => simp
  | cons a l ih =>
    rw [List.flatMap_cons, List.length_append, ih]
    simp [Nat.add_mul]
    omega
theorem waysR_len {n : Nat} (hn : n ≤ 3) : ∀ row : List Int, (waysN.waysR n row).length ≤ 3 ^ row.length
  | [] => by simp [waysN.waysR]
  | x :: r => by
    have ih := waysR_len hn r
    have e : (waysN.waysR n (x :: r)).length = (waysN.waysR n r).length * n := flat_len n _ _
    rw [e, List.length_cons, Nat.pow_succ]
    exact Nat.mul_le_mul ih hn
theorem waysN_len {n : Nat} {row : List Int} (hn : n ≤ 3) (hr : row.length ≤ 6) : (waysN n row).length ≤ 1000 := by
  rw [waysN_eq]
  have h1 := waysR_len hn row.reverse
  rw [List.length_reverse] at h1
  have h2 : 3 ^ row.length ≤ 3 ^ 6 := Nat.pow_le_pow_right (by decide) hr
  have h3 : (3 : Nat) ^ 6 ≤ 1000 := by decide
  omega
theorem waysN_ne {n : Nat} (hn : 0 < n) (row : List Int) : waysN n row ≠ [] := by
  rw [waysN_eq]
  induction row.reverse with
  | nil => simp [waysN.waysR]
  | cons x r ih =>
    intro z
    have e : (waysN.waysR n (x :: r)).length = (waysN.waysR n r).length * n := flat_len n _ _
    rw [z] at e
    have hl : 0 < (waysN.waysR n r).length := List.length_pos_iff.mpr ih
    have := Nat.mul_pos hl hn
    simp at e
    omega
/-- the least of some -/
def mnO (l : List Int) : Int := (l.foldl (fun acc x => match acc with | none => some x | some b => some (min b x)) none).getD 0
theorem least_unique {l : List Int} {x y : Int} (h1 : x ∈ l) (h2 : ∀ z ∈ l, x ≤ z) (h3 : y ∈ l) (h4 : ∀ z ∈ l, y ≤ z) : x = y := by
  have := h2 y h3
  have := h4 x h1
  omega
/-- a list of whole numbers, by itself -/
def LstI : Hp → V → List Int → Prop := fun H v ns => ∃ p, v = .ref p ∧ H p = some (.lst (ns.map V.int))
theorem LstI.st : ∀ H H' v x, LstI H v x → Ext H H' → LstI H' v x := fun _ _ _ _ ⟨p, e, h⟩ x => ⟨p, e, x.lst h⟩
/-- y is the least of s -/
def IsMin (s : List Int) (y : Int) : Prop := y ∈ s ∧ ∀ z ∈ s, y ≤ z
/-- b is 0, or the greatest of the leasts -/
def Best (ws : List (List Int)) (b : Int) : Prop := (b = 0 ∨ ∃ s ∈ ws, IsMin s b) ∧ 0 ≤ b ∧ ∀ s ∈ ws, ∀ y, IsMin s y → y ≤ b
theorem flatMap_range {α β : Type} (d : α) (f : α → List β) (L : List α) : ((List.range L.length).flatMap fun i => f (L.getD i d)) = L.flatMap f := by
  have : (List.range L.length).map (fun i => L.getD i d) = L := by
    apply List.ext_getElem
    · simp
    · intro i h1 h2
      simp [h2]
  conv => rhs; rw [← this]
  rw [List.flatMap_map]
section
variable {P : Program} {w : World} {K : PySem.W.Frag} {mg : Str → Option Value} {base : Heap} {T : List (Addr × Str)}
def spFair (K : PySem.W.Frag) (T : List (Addr × Str)) (C : Addr) : Sp := fun vs H Q E => ∃ (a : Addr) (R : List (List Int)) (r0 : List Int), vs = [.ref a, .int 0] ∧ LofT K H a R ∧ R[0]? = some r0 ∧ R.length ≤ 1000 ∧ r0.length ≤ 1000 ∧ Tabs T H ∧
  ((R.length ≤ 3 ∧ r0.length ≤ 6 ∧ (∀ x ∈ r0, 0 ≤ x) ∧ ∀ (b : Int) (H' : Hp), Best (waysN R.length r0) b → Ext H H' → Tabs T H' → Q (.int b) H') ∨ (6 < r0.length ∧ ∀ H', Tabs T H' → E (.ref C) none H'))
theorem ok_fair {f C fP : Addr} {fd fdP : FuncData} {k : Nat} (F : Fun K "fair_part" "fair_part" sFair f fd) (mr : mg "range" = none) (ml : mg "len" = none) (mm : mg "min" = none) (mx' : mg "max" = none) (ex : OwnExc K mg "BadSize" C)
    (FP : Fun K "put_on" "put_on" sPut fP fdP) (bP : Binds K fdP ["sums", "place", "much"] []) (gP : mg "put_on" = some (.ref fP)) (GP : FnOk P w K mg base CX0 (k + 1) fP fdP ["sums", "place", "much"] (spPut K)) :
    FnOk P w K mg base (L2.CX P w) (k + 2) f fd ["rows", "one"] (spFair K T C) := by
  refine okCX F scFair (fun vs H Q E h => ?_) (fun cdv hcd A outer s H vs Q E hr h => ?_)
  · obtain ⟨a, R, r0, rfl, _⟩ := h
    rfl
  · obtain ⟨a, R, r0, rfl, ⟨vr, hR, tR⟩, er0, hn1, hw1, hT, h⟩ := h
    have hpos : 0 < R.length := (List.getElem?_eq_some_iff.mp er0).1
    refine ⟨_, pss_cons (ps_asg (pe_tup (pa_cons (pe_ix ix_list (pv 0) (pv 1) (fun _ _ => rfl)) (pa_cons (pe_callB (cr_len rfl) (by rfl) ml PySem.boot_len (pa_cons (pv 0) pa_nil)) pa_nil))) (pg_tup rfl (pgs_cons (pg_name (i := 2) scFair.nd rfl (.inl rfl)) (pgs_cons (pg_name (i := 3) scFair.nd rfl (.inr rfl)) pgs_nil))))
      (pss_cons (ps_if (pt_cmpR op_gt (pe_callB (cr_len rfl) (by rfl) ml PySem.boot_len (pa_cons (pv 2) pa_nil)) pe_int (nomark _))
        (pss_one (ps_raise rfl (takes_of rfl rfl rfl rfl) (pmk_own PySem.F.excBase_ValueError ex.ex ex.g ex.kp (raises_own ex.sub ex.ty) rfl))) pss_nil)
      (PSs.nox (pss_cons (ps_set (i := 4) scFair.nd rfl (Or.inl rfl) pe_int)
      (pss_cons (ps_set (i := 5) scFair.nd rfl (Or.inl rfl) (pe_lst (pa_cons (pe_op op_rep (pe_lst (pa_cons pe_int pa_nil)) (pv 3)) pa_nil)))
      (pss_cons (ps_for PassesOwn.never rfl (pi_tup (pv 2)) (pg_name (i := 6) scFair.nd rfl (.inr rfl))
        (pss_one (ps_setLc2 (i := 5) (own := [("sums", 7), ("place", 8)]) (vs1 := [8]) (g := gName 7) (g1 := gName 8) (tt := tYes) (tt1 := tYes) (wi1 := iRng1 (tCons (tVar 3) tNil)) rfl scFair.nd rfl rfl (sw_true rfl rfl rfl (by decide +kernel)) (pi_list (pv 5)) (blkOk_by (N := ["rows", "one", "row", "many", "best", "ways", "worth_of_one", "sums", "place"]) (sc := defScope sFair) (by decide +kernel)) (by decide)
          (fun _ _ _ _ _ => pg_name (i := 7) scFair.nd rfl (Or.inl rfl)) (fun _ _ _ _ _ => pts_nil) (fun _ _ _ _ _ => pi_range1 (by rfl) mr (pa_cons (pv 3) pa_nil)) (fun _ _ _ _ _ => pg_name (i := 8) scFair.nd rfl (Or.inl rfl)) (fun _ _ _ _ _ => pts_nil)
          (fun _ _ _ _ _ => pe_call GP hr (by rfl) gP FP.kp bP .nil pass0 (pa_cons (pv 7) (pa_cons (pv 8) (pa_cons (pv 6) pa_nil)))))))
      (pss_cons (ps_for PassesOwn.never rfl (pi_list (pv 5)) (pg_name (i := 7) scFair.nd rfl (.inl rfl))
        (pss_one (ps_set (i := 4) scFair.nd rfl (Or.inl rfl) (pe_callB (call_max2 rfl) (by rfl) mx' (by decide +kernel) (pa_cons (pv 4) (pa_cons (pe_callB (cr_min rfl) (by rfl) mm (by decide +kernel) (pa_cons (pv 7) pa_nil)) pa_nil))))))
      (pss_one (ps_ret (pv 4))))))))), ?_⟩
    obtain ⟨v0, ev0, p0, rfl, hp0⟩ : ∃ v0, vr[0]? = some v0 ∧ TupI K H v0 r0 := by
      obtain ⟨v, e, t⟩ := tR.get hpos
      have : R[0] = r0 := by
        rw [List.getElem?_eq_getElem hpos] at er0
        exact Option.some.inj er0
      exact ⟨v, e, by rw [← this]; exact t⟩
    have hvr : vr.length = R.length := tR.1
    refine ⟨.ref a, rfl, .int 0, rfl, a, vr, 0, .ref p0, rfl, rfl, hR, atI_nat (j := 0) ev0, .ref a, rfl, a, vr, rfl, .inl hR, by show 2 ≤ sizeLine; decide, fun pt hpt => ?_⟩
    have x1 : Ext H (upd H pt (.tup [.ref p0, .int (vr.length : Nat)])) := Ext.new hpt
    have t1 : Tabs T (upd H pt (.tup [.ref p0, .int (vr.length : Nat)])) := hT.same (Same.new hpt)
    refine ⟨pt, _, rfl, .inl (.inl upd_same), rfl, .ref p0, [.int (vr.length : Nat)], rfl, .int (vr.length : Nat), [], rfl, rfl, ?_⟩
    refine ⟨.ref p0, rfl, p0, _, rfl, .inr (x1.seqT hp0), _, _, rfl, rfl, _, rfl, ?_⟩
    rw [List.length_map]
    rcases h with ⟨hn3, hw6, hnn, q⟩ | ⟨hw7, q⟩
    case inr =>
      have e : decide ((6 : Int) < (r0.length : Nat)) = true := decide_eq_true (by omega)
      rw [e]
      exact iteT (q _ t1)
    have e : decide ((6 : Int) < (r0.length : Nat)) = false := decide_eq_false (by omega)
    rw [e]
    refine iteF ?_
    -- best = 0; ways = [[0] * many]
    refine ⟨by show 1 ≤ sizeLine; decide, fun pz hpz => ?_⟩
    have x2 := x1.trans (Ext.new (o := .lst [.int 0]) hpz)
    have t2 := t1.same (Same.new (o := .lst [.int 0]) hpz)
    refine ⟨.int (vr.length : Nat), rfl, pz, _, _, rfl, rfl, upd_same, by omega, by omega, ?_, fun pr hpr => ?_⟩
    · simp only [List.length_cons, List.length_nil, Int.toNat_natCast]
      have := small1000 (n := vr.length) (by omega)
      omega
    have erep : (List.replicate ((vr.length : Nat) : Int).toNat [V.int 0]).flatten = (List.replicate R.length (0 : Int)).map V.int := by
      rw [Int.toNat_natCast, hvr, rep_flat, List.map_replicate]
    rw [erep]
    have x3 := x2.trans (Ext.new (o := .lst ((List.replicate R.length (0 : Int)).map V.int)) hpr)
    have t3 := t2.same (Same.new (o := .lst ((List.replicate R.length (0 : Int)).map V.int)) hpr)
    refine ⟨by show 1 ≤ sizeLine; decide, fun wa hwa => ?_⟩
    obtain ⟨H4, eH4⟩ : ∃ H4, H4 = upd (upd (upd (upd H pt (.tup [.ref p0, .int (vr.length : Nat)])) pz (.lst [.int 0])) pr (.lst ((List.replicate R.length (0 : Int)).map V.int))) wa (.lst [.ref pr]) := ⟨_, rfl⟩
    have npw : pr ≠ wa := fun z => by rw [← z, upd_same] at hwa; cases hwa
    rw [← eH4]
    have x4 : Ext H H4 := by rw [eH4]; exact x3.trans (Ext.new hwa)
    have t4 : Tabs T H4 := by rw [eH4]; exact t3.same (Same.new hwa)
    have w4 : H4 wa = some (.lst [.ref pr]) := by rw [eH4, upd_same]
    have r4 : Rels LstI H4 [.ref pr] (waysN R.length []) := ⟨rfl, fun i y s e1 e2 => by
      cases i with
      | zero =>
        obtain rfl := Option.some.inj e1
        obtain rfl := Option.some.inj e2
        exact ⟨pr, rfl, by rw [eH4, upd_ne npw, upd_same]⟩
      | succ i => simp at e1⟩
    -- for worth_of_one in row
    refine ⟨.ref p0, rfl, p0, rfl, ⟨_, x4.seqT hp0⟩, for_tup (xs := r0.map V.int) (fun i σ Hc => ∃ wa ys y6, σ = [some (.ref a), some (.int 0), some (.ref p0), some (.int (vr.length : Nat)), some (.int 0), some (.ref wa), y6, none, none] ∧ Ext H Hc ∧ Tabs T Hc ∧ Hc wa = some (.lst ys) ∧ Rels LstI Hc ys (waysN R.length (r0.take i)))
      ⟨wa, _, none, rfl, x4, t4, w4, r4⟩ (fun i σ Hc _ ⟨_, _, _, _, xc, _⟩ => xc.seqT hp0) (fun i x σ Hc hx ⟨wa, ys, y6, es, xc, tc, wc, rc⟩ => ?_) (fun σ Hc ⟨wa, ys, y6, es, xc, tc, wc, rc⟩ => ?_)⟩
    · subst es
      have hi : i < r0.length := by
        have := (List.getElem?_eq_some_iff.mp hx).1
        simpa using this
      have ex' : x = .int r0[i] := by
        rw [List.getElem?_map, List.getElem?_eq_getElem hi] at hx
        exact (Option.some.inj hx).symm
      subst ex'
      have hyl : ys.length = (waysN R.length (r0.take i)).length := rc.1
      have wok := waysN_ok (n := R.length) (row := r0.take i) fun x hx => hnn x (List.mem_of_mem_take hx)
      have esn : waysN R.length (r0.take (i + 1)) = (List.range ys.length).flatMap fun j => (List.range R.length).map fun p => putOn ((waysN R.length (r0.take i)).getD j []) p r0[i] := by
        rw [List.take_add_one, List.getElem?_eq_getElem hi]
        show waysN R.length (r0.take i ++ [r0[i]]) = _
        rw [waysN_snoc, hyl, flatMap_range [] (fun s => (List.range R.length).map fun p => putOn s p r0[i])]
      refine ⟨.ref wa, rfl, wa, rfl, ⟨_, SqL.of wc⟩, fun D hD => ?_⟩
      refine lc2_gen (T := T) (walk_list (K := K) (a := wa) (xs := ys)) LstI.st (fun _ => R.length) (fun j p => putOn ((waysN R.length (r0.take i)).getD j []) p r0[i]) ?_ tc hD (fun H5 x5 => SqL.of (x5.lst wc)) (fun j x H5 H' acc Kk hj x5 t5 d5 y hk => ?_) (fun H5 ys5 x5 t5 d5 r5 => ?_)
      · rw [← esn]
        have := waysN_len (n := R.length) (row := r0.take (i + 1)) hn3 (by rw [List.length_take]; omega)
        omega
      · obtain ⟨rfl, hx2⟩ := y
        have hjw : j < (waysN R.length (r0.take i)).length := by omega
        obtain ⟨ps, rfl, hps⟩ := rc.2 j x _ hx2 (List.getElem?_eq_getElem hjw)
        have eg : (waysN R.length (r0.take i)).getD j [] = (waysN R.length (r0.take i))[j] := by simp [hjw]
        obtain ⟨wl, _⟩ := wok _ (List.getElem_mem hjw)
        refine ⟨rfl, .int (vr.length : Nat), rfl, (vr.length : Nat), rfl, by omega, by omega, hk _ _ _ _ _ (Ext.refl _) t5 (by
          have wr := walk_range (lo := 0) (n := R.length)
          rw [Int.toNat_natCast, hvr]
          exact wr) (fun _ _ => trivial) fun p x2 H6 H7 acc2 Qt hp x6 t6 d6 y2 hq => ?_⟩
        obtain ⟨rfl, rfl⟩ := y2
        refine ⟨rfl, .ref ps, rfl, .int (0 + (p : Nat)), rfl, .int r0[i], rfl, ps, (waysN R.length (r0.take i))[j], p, r0[i], by rw [Int.zero_add]; rfl, SqL.of (x6.lst hps), by rw [wl]; exact hp, by rw [wl]; exact hn1, fun H8 pq hpq s8 e8 => ?_⟩
        refine hq _ _ (Ext.of s8) (t6.same s8) ⟨pq, rfl, ?_⟩
        rw [eg]
        exact del_new d6 hpq e8
      · rw [← esn] at r5
        exact ⟨D, ys5, _, rfl, xc.trans x5, t5, d5, r5.ext LstI.st del_sub⟩
    · subst es
      have htk : r0.take (r0.map V.int).length = r0 := List.take_of_length_le (by simp)
      rw [htk] at rc
      have wok := waysN_ok (n := R.length) (row := r0) hnn
      have hyl : ys.length = (waysN R.length r0).length := rc.1
      refine ⟨.ref wa, rfl, wa, rfl, ⟨_, SqL.of wc⟩, for_list (xs := ys) (fun i σ H5 => ∃ (b : Int) (y7 : Option V) (y6' : Option V), σ = [some (.ref a), some (.int 0), some (.ref p0), some (.int (vr.length : Nat)), some (.int b), some (.ref wa), y6', y7, none] ∧ H5 = Hc ∧ Best ((waysN R.length r0).take i) b)
        ⟨0, none, y6, rfl, rfl, ⟨.inl rfl, Int.le_refl _, fun s hs => absurd hs (by simp)⟩⟩ (fun i σ H5 _ ⟨_, _, _, _, e, _⟩ => by rw [e]; exact SqL.of wc) (fun i x σ H5 hx ⟨b, y7, y6', es, e5, hb⟩ => ?_) (fun σ H5 ⟨b, y7, y6', es, e5, hb⟩ => ?_)⟩
      · subst es
        subst e5
        have hiw : i < (waysN R.length r0).length := by
          rw [← hyl]
          exact (List.getElem?_eq_some_iff.mp hx).1
        obtain ⟨ps, rfl, hps⟩ := rc.2 i x _ hx (List.getElem?_eq_getElem hiw)
        obtain ⟨wl, wn⟩ := wok _ (List.getElem_mem hiw)
        refine ⟨.int b, rfl, .ref ps, rfl, ps, (waysN R.length r0)[i], rfl, SqL.of hps, by rw [wl]; exact hpos, fun mm' hmm hle => ?_⟩
        refine ⟨_, _, rfl, _, _, _, rfl, rfl, ?_⟩
        have htk2 : (waysN R.length r0).take (i + 1) = (waysN R.length r0).take i ++ [(waysN R.length r0)[i]] := by
          rw [List.take_add_one, List.getElem?_eq_getElem hiw]
          rfl
        rw [htk2]
        obtain ⟨b1, b2, b3⟩ := hb
        have hm0 := wn mm' hmm
        have ism : IsMin (waysN R.length r0)[i] mm' := ⟨hmm, hle⟩
        by_cases hgt : mm' > b
        · rw [if_pos hgt]
          refine ⟨.inr ⟨_, List.mem_append_right _ (List.mem_singleton.mpr rfl), ism⟩, hm0, fun s hs y hy => ?_⟩
          rcases List.mem_append.mp hs with z | z
          · have := b3 s z y hy
            omega
          · have : s = (waysN R.length r0)[i] := by simpa using z
            rw [this] at hy
            have := least_unique hy.1 hy.2 hmm hle
            omega
        · rw [if_neg hgt]
          refine ⟨?_, b2, fun s hs y hy => ?_⟩
          · rcases b1 with z | ⟨s, hs, z⟩
            · exact .inl z
            · exact .inr ⟨s, List.mem_append_left _ hs, z⟩
          · rcases List.mem_append.mp hs with z | z
            · exact b3 s z y hy
            · have : s = (waysN R.length r0)[i] := by simpa using z
              rw [this] at hy
              have := least_unique hy.1 hy.2 hmm hle
              omega
      · subst es
        rw [hyl, List.take_length] at hb
        refine ⟨_, rfl, ?_⟩
        rw [e5]
        exact q b Hc hb xc tc
end
end PM
namespace PM
open PySem PySem.Spec PyProof.Rows L2 GenW
abbrev sLFlat : Stmt := topS 27
theorem scLFlat : FnScope ["_law_rows", "_law_found", "_law_row"] ["_law_rows"] (defScope sLFlat) := ⟨rfl, rfl, rfl, by decide +kernel, rfl, by decide +kernel, by decide +kernel⟩
abbrev sLDice : Stmt := topS 28
theorem scLDice : FnScope ["_law_cell"] ["_law_cell"] (defScope sLDice) := ⟨rfl, rfl, rfl, by decide +kernel, rfl, by decide +kernel, by decide +kernel⟩
abbrev sLRoll : Stmt := topS 29
theorem scLRoll : FnScope ["_law_dice_here", "_law_many", "_law_found"] ["_law_dice_here", "_law_many"] (defScope sLRoll) := ⟨rfl, rfl, rfl, by decide +kernel, rfl, by decide +kernel, by decide +kernel⟩
abbrev sLRounds : Stmt := topS 30
theorem scLRounds : FnScope ["_law_script", "_law_most_now", "_law_cells", "_law_cell"] ["_law_script", "_law_most_now"] (defScope sLRounds) := ⟨rfl, rfl, rfl, by decide +kernel, rfl, by decide +kernel, by decide +kernel⟩
abbrev sLTold : Stmt := topS 31
abbrev sLWorth : Stmt := topS 32
theorem scLWorth : FnScope ["_law_row", "_law_lot", "_law_thing"] ["_law_row", "_law_lot"] (defScope sLWorth) := ⟨rfl, rfl, rfl, by decide +kernel, rfl, by decide +kernel, by decide +kernel⟩
abbrev sLBut : Stmt := topS 33
theorem scLBut : FnScope ["_law_rows", "_law_lots", "_law_j", "_law_lot", "_law_less", "_law_thing"] ["_law_rows", "_law_lots"] (defScope sLBut) := ⟨rfl, rfl, rfl, by decide +kernel, rfl, by decide +kernel, by decide +kernel⟩
/-- a list by itself -/
def LstV : Hp → V → List V → Prop := fun H v xs => ∃ p, v = .ref p ∧ H p = some (.lst xs)
theorem LstV.st : ∀ H H' v x, LstV H v x → Ext H H' → LstV H' v x := fun _ _ _ _ ⟨p, e, h⟩ x => ⟨p, e, x.lst h⟩
section
variable {P : Program} {w : World} {K : PySem.W.Frag} {mg : Str → Option Value} {base : Heap} {T : List (Addr × Str)}
def spLFlat (K : PySem.W.Frag) : Sp := fun vs H Q _ => ∃ (a : Addr) (ps : List V) (xss : List (List V)), vs = [.ref a] ∧ SqL K H a ps ∧ Rels LstV H ps xss ∧ xss.flatten.length ≤ 100000 ∧
  ∀ (H' : Hp) (q : Addr), H q = none → Same H H' → H' q = some (.lst xss.flatten) → Q (.ref q) H'
theorem ok_lflat {f : Addr} {fd : FuncData} {k : Nat} (F : Fun K "_law_flat" "_law_flat" sLFlat f fd) : FnOk P w K mg base CX0 (k + 1) f fd ["_law_rows"] (spLFlat K) := by
  refine okC F scLFlat (fun vs H Q E h => ?_) (fun cdv hcd A outer s H vs Q E hr h => ?_)
  · obtain ⟨a, ps, xss, rfl, _⟩ := h
    rfl
  · obtain ⟨a, ps, xss, rfl, hA, hP, hl, q⟩ := h
    refine ⟨_, pss_cons (ps_set (i := 1) scLFlat.nd rfl (Or.inl rfl) (pe_lst pa_nil))
      (pss_cons (ps_for PassesOwn.never rfl (pi_list (pv 0)) (pg_name (i := 2) scLFlat.nd rfl (.inl rfl)) (pss_one (ps_set (i := 1) scLFlat.nd rfl (Or.inl rfl) (pe_op op_cat (pv 1) (pv 2)))))
      (pss_one (ps_ret (pv 1)))), ?_⟩
    refine ⟨Nat.zero_le _, fun o no => ?_⟩
    have hpl : ps.length = xss.length := hP.1
    refine ⟨.ref a, rfl, a, rfl, ⟨_, Same.seq (Same.new no) hA⟩, for_list (xs := ps) (fun i σ H1 => ∃ o y2, σ = [some (.ref a), some (.ref o), y2] ∧ (∀ b u, H b = some u → H1 b = some u) ∧ H o = none ∧ H1 o = some (.lst (xss.take i).flatten))
      ⟨o, none, rfl, Same.new no, no, upd_same⟩ (fun i σ H1 _ ⟨_, _, _, sm, _⟩ => Same.seq sm hA) (fun i x σ H1 hx ⟨o, y2, es, sm, no, o1⟩ => ?_) (fun σ H1 ⟨o, y2, es, sm, no, o1⟩ => ?_)⟩
    · subst es
      have hi : i < xss.length := by
        rw [← hpl]
        exact (List.getElem?_eq_some_iff.mp hx).1
      obtain ⟨p, rfl, hp⟩ := hP.2 i x _ hx (List.getElem?_eq_getElem hi)
      have htk : (xss.take (i + 1)).flatten = (xss.take i).flatten ++ xss[i] := by
        rw [List.take_add_one, List.getElem?_eq_getElem hi, List.flatten_append]
        show _ ++ [xss[i]].flatten = _
        rw [List.flatten_singleton]
      have hsz : (xss.take i).flatten.length + xss[i].length ≤ 100000 := by
        rw [← List.length_append, ← htk]
        have e : xss.flatten = (xss.take (i + 1)).flatten ++ (xss.drop (i + 1)).flatten := by rw [← List.flatten_append, List.take_append_drop]
        rw [e, List.length_append] at hl
        omega
      refine ⟨.ref o, rfl, .ref p, rfl, o, p, _, _, rfl, rfl, o1, sm _ _ hp, Nat.le_of_lt (Nat.lt_of_le_of_lt hsz (by decide)), fun q2 hq2 => ?_⟩
      exact ⟨q2, _, rfl, Same.trans sm (Same.new hq2), Same.free sm hq2, by rw [upd_same, htk]⟩
    · subst es
      rw [hpl, List.take_length] at o1
      exact ⟨.ref o, rfl, q H1 o no sm o1⟩
/-- three whole numbers -/
def DiceAt (H : Hp) (d : Addr) : Prop := ∃ a b c : Int, H d = some (.lst [.int a, .int b, .int c])
def spLDice : Sp := fun vs H Q _ => ∃ c : Int, vs = [.int c] ∧ ∀ (H' : Hp) (d : Addr), H d = none → Same H H' → DiceAt H' d → Q (.ref d) H'
theorem ok_ldice {f : Addr} {fd : FuncData} {k : Nat} (F : Fun K "_law_dice" "_law_dice" sLDice f fd) (ma : mg "abs" = none) (mi : mg "int" = none) : FnOk P w K mg base CX0 (k + 1) f fd ["_law_cell"] spLDice := by
  refine okC F scLDice (fun vs H Q E h => ?_) (fun cdv hcd A outer s H vs Q E hr h => ?_)
  · obtain ⟨c, rfl, _⟩ := h
    rfl
  · obtain ⟨c, rfl, q⟩ := h
    refine ⟨_, pss_cons (ps_if (pt_chain op_lt op_lt (pe_op op_sub pe_int pe_int) (pv 0) pe_int) (pss_one (ps_ret (pe_lst (pa_cons (pe_callB call_abs (by rfl) ma (by decide +kernel) (pa_cons (pv 0) pa_nil)) (pa_cons pe_int (pa_cons pe_int pa_nil)))))) pss_nil)
      (pss_one (ps_ret (pe_lst (pa_cons (pv 0) (pa_cons (pe_op op_add pe_int (pe_op op_modN (pe_callTy call_int1 (by rfl) mi (by decide +kernel) (pa_cons (pv 0) pa_nil)) pe_int)) (pa_cons (pe_callTy call_int1 (by rfl) mi (by decide +kernel) (pa_cons (pe_cmpR op_ge (pv 0) (pe_op op_pow pe_int pe_int) (nomark _)) pa_nil)) pa_nil)))))), ?_⟩
    have fin : ∀ a b d : Int, ∀ p, H p = none → Q (.ref p) (upd H p (.lst [.int a, .int b, .int d])) := fun a b d p hp => q _ p hp (Same.new hp) ⟨a, b, d, upd_same⟩
    refine ⟨_, _, rfl, rfl, .int c, rfl, _, _, rfl, rfl, ?_⟩
    by_cases h1 : (0 : Int) - 10 < c
    · refine ⟨true, by show V.bl (decide ((0 : Int) - 10 < c)) = _; rw [decide_eq_true h1], iteT ⟨_, _, rfl, rfl, ?_⟩⟩
      by_cases h2 : c < 10
      · refine ⟨true, by show V.bl (decide (c < 10)) = _; rw [decide_eq_true h2], iteT ?_⟩
        exact ⟨.int c, rfl, c, rfl, by show 3 ≤ sizeLine; decide, fin _ _ _⟩
      · refine ⟨false, by show V.bl (decide (c < 10)) = _; rw [decide_eq_false h2], iteF ?_⟩
        exact ⟨.int c, rfl, .int c, rfl, .inl ⟨c, rfl, _, _, rfl, rfl, by show (1009 : Int) ≠ 0; decide, _, _, rfl, rfl, .int c, rfl, _, _, rfl, rfl, ⟨by decide, by decide, by decide⟩, _, _, rfl, rfl, .inr ⟨_, rfl, by show 3 ≤ sizeLine; decide, fin _ _ _⟩⟩⟩
    · refine ⟨false, by show V.bl (decide ((0 : Int) - 10 < c)) = _; rw [decide_eq_false h1], iteF ⟨false, rfl, iteF ?_⟩⟩
      exact ⟨.int c, rfl, .int c, rfl, .inl ⟨c, rfl, _, _, rfl, rfl, by show (1009 : Int) ≠ 0; decide, _, _, rfl, rfl, .int c, rfl, _, _, rfl, rfl, ⟨by decide, by decide, by decide⟩, _, _, rfl, rfl, .inr ⟨_, rfl, by show 3 ≤ sizeLine; decide, fin _ _ _⟩⟩⟩
def spLRoll : Sp := fun vs H Q _ => ∃ (d : Addr) (many : Int), vs = [.ref d, .int many] ∧ DiceAt H d ∧ 0 < many ∧ many ≤ 1000 ∧
  ∀ (r : Int) (H' : Hp), 0 ≤ r → r < many → (∀ b, b ≠ d → H' b = H b) → DiceAt H' d → Q (.int r) H'
theorem fmod_rng {a m : Int} (h : 0 < m) : 0 ≤ a.fmod m ∧ a.fmod m < m := by
  rw [Int.fmod_eq_emod_of_nonneg _ (by omega)]
  exact ⟨Int.emod_nonneg _ (by omega), Int.emod_lt_of_pos _ h⟩
theorem ok_lroll {f : Addr} {fd : FuncData} {k : Nat} (F : Fun K "_law_roll" "_law_roll" sLRoll f fd) (mi : mg "int" = none) : FnOk P w K mg base CX0 (k + 1) f fd ["_law_dice_here", "_law_many"] spLRoll := by
  refine okC F scLRoll (fun vs H Q E h => ?_) (fun cdv hcd A outer s H vs Q E hr h => ?_)
  · obtain ⟨d, many, rfl, _⟩ := h
    rfl
  · obtain ⟨d, many, rfl, ⟨a, b, c, hd⟩, h0, h1, q⟩ := h
    refine ⟨_, pss_cons (ps_if (PW.pt (pw_or (pt_cmpR op_eq (pe_ix ix_list (pv 0) pe_int (fun _ _ => rfl)) pe_int (nomark _)) (pw_or1 (PW.pt (pw_and (pt_cmpR op_eq (pe_ix ix_list (pv 0) pe_int (fun _ _ => rfl)) pe_int (nomark _)) (pw_and1 (pt_cmpR op_gt (pe_ix ix_list (pv 0) pe_int (fun _ _ => rfl)) pe_int (nomark _))))))))
        (pss_cons (ps_set (i := 2) scLRoll.nd rfl (Or.inl rfl) (pe_op op_modN (pe_callTy call_int1 (by rfl) mi (by decide +kernel) (pa_cons (pe_ix ix_list (pv 0) pe_int (fun _ _ => rfl)) pa_nil)) (pv 1)))
        (pss_cons (ps_asg (pe_op op_fdivN (pe_ix ix_list (pv 0) pe_int (fun _ _ => rfl)) (pv 1)) (pg_sub (pv 0) pe_int set_list))
        (pss_one (ps_ret (pv 2))))) pss_nil)
      (pss_cons (ps_asg pe_int (pg_sub (pv 0) pe_int set_list))
      (pss_cons (ps_asg (pe_op op_modN (pe_callTy call_int1 (by rfl) mi (by decide +kernel) (pa_cons (pe_op op_add (pe_op op_add (pe_op op_mul (pe_ix ix_list (pv 0) pe_int (fun _ _ => rfl)) pe_int) (pe_op op_mul (pe_ix ix_list (pv 0) pe_int (fun _ _ => rfl)) pe_int)) pe_int) pa_nil)) pe_int) (pg_sub (pv 0) pe_int set_list))
      (pss_cons (ps_asg (pe_op op_add (pe_ix ix_list (pv 0) pe_int (fun _ _ => rfl)) pe_int) (pg_sub (pv 0) pe_int set_list))
      (pss_one (ps_ret (pe_op op_modN (pe_callTy call_int1 (by rfl) mi (by decide +kernel) (pa_cons (pe_op op_add (pe_op op_fdivN (pe_ix ix_list (pv 0) pe_int (fun _ _ => rfl)) pe_int) (pe_ix ix_list (pv 0) pe_int (fun _ _ => rfl))) pa_nil)) (pv 1))))))), ?_⟩
    have g0 : ∀ {x y z : Int}, atI [V.int x, .int y, .int z] 0 = some (.int x) := fun {x y z} => atI_nat (j := 0) rfl
    have g1 : ∀ {x y z : Int}, atI [V.int x, .int y, .int z] 1 = some (.int y) := fun {x y z} => atI_nat (j := 1) rfl
    have g2 : ∀ {x y z : Int}, atI [V.int x, .int y, .int z] 2 = some (.int z) := fun {x y z} => atI_nat (j := 2) rfl
    have way1 : ∀ {Q' : VK}, (∀ r H', 0 ≤ r → r < many → (∀ b, b ≠ d → H' b = H b) → DiceAt H' d → Q' (.int r) H') → Q' (.int (a.fmod many)) (upd H d (.lst [.int (a.fdiv many), .int b, .int c])) := fun {Q'} q => q _ _ (fmod_rng h0).1 (fmod_rng h0).2 (fun b hb => upd_ne hb) ⟨_, _, _, upd_same⟩
    by_cases hc2 : c = 2
    · refine ⟨.ref d, rfl, d, _, 2, .int c, rfl, rfl, SqL.of hd, g2, rfl, _, rfl, ?_⟩
      rw [decide_eq_true (by rw [hc2])]
      refine iteT (iteT ?_)
      refine ⟨.ref d, rfl, d, _, 0, .int a, rfl, rfl, SqL.of hd, g0, .inl ⟨a, rfl, .int many, rfl, _, _, rfl, rfl, by omega, ?_⟩⟩
      refine ⟨.ref d, rfl, d, _, 0, .int a, rfl, rfl, SqL.of hd, g0, .int many, rfl, _, _, rfl, rfl, ⟨by omega, by omega⟩, .ref d, rfl, d, _, 0, 0, rfl, rfl, hd, rfl, ?_⟩
      exact ⟨_, rfl, way1 q⟩
    refine ⟨.ref d, rfl, d, _, 2, .int c, rfl, rfl, SqL.of hd, g2, rfl, _, rfl, ?_⟩
    rw [decide_eq_false (fun z => hc2 (V.int.inj z))]
    refine iteF ⟨.ref d, rfl, d, _, 2, .int c, rfl, rfl, SqL.of hd, g2, rfl, _, rfl, ?_⟩
    by_cases hc1 : c = 1
    rw [decide_eq_true (by rw [hc1])]
    refine iteT ⟨.ref d, rfl, d, _, 0, .int a, rfl, rfl, SqL.of hd, g0, _, _, rfl, rfl, _, rfl, ?_⟩
    by_cases ha : 0 < a
    rw [decide_eq_true ha]
    refine iteT ?w1
    rotate_left 1
    rw [decide_eq_false ha]
    refine iteF ?w2a
    rotate_left 1
    rw [decide_eq_false (fun z => hc1 (V.int.inj z))]
    refine iteF (iteF ?w2b)
    case w1 =>
      refine ⟨.ref d, rfl, d, _, 0, .int a, rfl, rfl, SqL.of hd, g0, .inl ⟨a, rfl, .int many, rfl, _, _, rfl, rfl, by omega, ?_⟩⟩
      refine ⟨.ref d, rfl, d, _, 0, .int a, rfl, rfl, SqL.of hd, g0, .int many, rfl, _, _, rfl, rfl, ⟨by omega, by omega⟩, .ref d, rfl, d, _, 0, 0, rfl, rfl, hd, rfl, ?_⟩
      exact ⟨_, rfl, way1 q⟩
    case w2a | w2b =>
      refine ⟨.ref d, rfl, d, _, 2, 2, rfl, rfl, hd, rfl, ?_⟩
      have e1 : ∀ (H : Hp), upd H d (.lst ([V.int a, .int b, .int c].set 2 (.int 0))) d = some (.lst [.int a, .int b, .int 0]) := fun H => upd_same
      refine ⟨.ref d, rfl, d, _, 0, .int a, rfl, rfl, SqL.of (e1 H), g0, _, _, rfl, rfl, .inr ⟨by decide, by decide⟩, .ref d, rfl, d, _, 1, .int b, rfl, rfl, SqL.of (e1 H), g1, _, _, rfl, rfl, .inr ⟨by decide, by decide⟩, _, _, rfl, rfl, _, _, rfl, rfl, .inl ⟨_, rfl, _, _, rfl, rfl, by show (2147483647 : Int) ≠ 0; decide, ?_⟩⟩
      refine ⟨.ref d, rfl, d, _, 0, 0, rfl, rfl, e1 H, rfl, ?_⟩
      have h2 : upd (upd H d (.lst ([V.int a, .int b, .int c].set 2 (.int 0)))) d (.lst ([V.int a, .int b, .int 0].set 0 (.int ((a * 48271 + b * 69621 + 11).fmod 2147483647)))) d = some (.lst [.int ((a * 48271 + b * 69621 + 11).fmod 2147483647), .int b, .int 0]) := upd_same
      refine ⟨.ref d, rfl, d, _, 1, .int b, rfl, rfl, SqL.of h2, g1, _, _, rfl, rfl, .ref d, rfl, d, _, 1, 1, rfl, rfl, h2, rfl, ?_⟩
      have h3 : upd (upd (upd H d (.lst ([V.int a, .int b, .int c].set 2 (.int 0)))) d (.lst ([V.int a, .int b, .int 0].set 0 (.int ((a * 48271 + b * 69621 + 11).fmod 2147483647))))) d (.lst ([V.int ((a * 48271 + b * 69621 + 11).fmod 2147483647), .int b, .int 0].set 1 (.int (b + 1)))) d = some (.lst [.int ((a * 48271 + b * 69621 + 11).fmod 2147483647), .int (b + 1), .int 0]) := upd_same
      refine ⟨.ref d, rfl, d, _, 0, .int _, rfl, rfl, SqL.of h3, g0, _, _, rfl, rfl, ⟨by decide, by decide⟩, .ref d, rfl, d, _, 0, .int _, rfl, rfl, SqL.of h3, g0, _, _, rfl, rfl, .inl ⟨_, rfl, .int many, rfl, _, _, rfl, rfl, by omega, ?_⟩⟩
      exact q _ _ (fmod_rng h0).1 (fmod_rng h0).2 (fun b' hb => by rw [upd_ne hb, upd_ne hb, upd_ne hb]) ⟨_, _, _, h3⟩
end
end PM
namespace PM
open PySem PySem.Spec PyProof.Rows L2 GenW
theorem min_less {row lot : List Int} {m : Int} (h : lot ≠ []) (h1 : m ∈ lot.map fun t => W row lot - at0 row t) (h2 : ∀ y ∈ lot.map (fun t => W row lot - at0 row t), m ≤ y) : m = W row lot - mx (lot.map (at0 row)) := by
  obtain ⟨m1, m2⟩ := mx_mem (l := lot.map (at0 row)) (fun z => h (List.map_eq_nil_iff.mp z))
  obtain ⟨t, ht, et⟩ := List.mem_map.mp h1
  obtain ⟨u, hu, eu⟩ := List.mem_map.mp m1
  have a := m2 (at0 row t) (List.mem_map.mpr ⟨t, ht, rfl⟩)
  have b := h2 _ (List.mem_map.mpr ⟨u, hu, rfl⟩)
  omega
theorem map_at0 (f : Int → Int) (l : List Int) : ((List.range l.length).map fun i => f (l.getD i 0)) = l.map f := by
  have : (List.range l.length).map (fun i => l.getD i 0) = l := by
    apply List.ext_getElem
    · simp
    · intro i h1 h2
      simp [h2]
  conv => rhs; rw [← this]
  rw [List.map_map]
  rfl
section
variable {P : Program} {w : World} {K : PySem.W.Frag} {mg : Str → Option Value} {base : Heap} {T : List (Addr × Str)}
def spLRounds (K : PySem.W.Frag) (T : List (Addr × Str)) : Sp := fun vs H Q _ => ∃ (a : Addr) (ns : List Int), vs = [.ref a, .int 1] ∧ SqL K H a (ns.map V.int) ∧ Tabs T H ∧
  ∀ (H' : Hp) (q d : Addr), Fr H q → Fr H d → Ext H H' → Tabs T H' → H' q = some (.lst [.ref d]) → DiceAt H' d → Q (.ref q) H'
theorem ok_lrounds {f fD : Addr} {fd fdD : FuncData} {k : Nat} (F : Fun K "_law_rounds" "_law_rounds" sLRounds f fd)
    (FD : Fun K "_law_dice" "_law_dice" sLDice fD fdD) (bD : Binds K fdD ["_law_cell"] []) (gD : mg "_law_dice" = some (.ref fD)) (GD : FnOk P w K mg base CX0 (k + 1) fD fdD ["_law_cell"] spLDice) :
    FnOk P w K mg base CX0 (k + 2) f fd ["_law_script", "_law_most_now"] (spLRounds K T) := by
  refine okC F scLRounds (fun vs H Q E h => ?_) (fun cdv hcd A outer s H vs Q E hr h => ?_)
  · obtain ⟨a, ns, rfl, _⟩ := h
    rfl
  · obtain ⟨a, ns, rfl, hA, hT, q⟩ := h
    refine ⟨_, pss_cons (ps_set (i := 2) scLRounds.nd rfl (Or.inl rfl) (pe_slice sl_list (pv 0) po_none (po_some (pv 1))))
      (pss_cons (ps_if (pt_cmpR (op_eqD hr.units) (pv 2) (pe_lst pa_nil) (nomark _)) (pss_one (ps_set (i := 2) scLRounds.nd rfl (Or.inl rfl) (pe_lst (pa_cons pe_int pa_nil)))) pss_nil)
      (pss_one (ps_ret (pe_lc (own := [("_law_cell", 3)]) (g := gName 3) (tt := tYes) rfl scLRounds.nd (pi_list (pv 2)) (blkOk_by (N := ["_law_script", "_law_most_now", "_law_cells", "_law_cell"]) (sc := defScope sLRounds) (by decide +kernel)) (fun _ _ _ _ _ => pg_name (i := 3) scLRounds.nd rfl (Or.inl rfl)) (fun _ _ _ _ _ => pts_nil)
        (fun _ _ _ _ _ => pe_call GD hr (by rfl) gD FD.kp bD .nil pass0 (pa_cons (pv 3) pa_nil)))))), ?_⟩
    have fin : ∀ (p : Addr) (c : Int) (H1 : Hp), Ext H H1 → Tabs T H1 → H1 p = some (.lst [.int c]) → ∀ (D : Addr), H1 D = none →
        ∃ Wf : Nat → Nat → Hp → Prop, (∃ m, Wf 0 m (upd H1 D (.lst []))) ∧ ∀ i m H2, Wf i m H2 → ((Itl K p).stop i H2 ∧ Q (.ref D) H2) ∨ ((Itl K p).go i H2 ∧ ∃ Nx : Hp → Prop, (∀ H', Nx H' → ∃ m', m' < m ∧ Wf (i + 1) m' H') ∧ ∀ x H', (Itl K p).yld i H2 x H' → gName 3 x (wipe (L2.start ["_law_script", "_law_most_now", "_law_cells", "_law_cell"] [.ref a, .int 1] |>.set 2 (some (.ref p))) [3]) H' fun σ2 H2 => wipe σ2 [3] = wipe (L2.start ["_law_script", "_law_most_now", "_law_cells", "_law_cell"] [.ref a, .int 1] |>.set 2 (some (.ref p))) [3] ∧ tYes σ2 H2 fun b H3 =>
          if b = true then tCall spLDice [] E0 (tCons (tVar 3) tNil) σ2 H3 fun y H4 => ∃ acc, H4 D = some (.lst acc) ∧ acc.length < sizeLine ∧ Nx (upd H4 D (.lst (acc ++ [y]))) else Nx H3) := fun p c H1 x1 t1 p1 D hD => by
      refine lc_list (K := K) (a := p) (xs := [.int c]) (fun i H2 => Ext H1 H2 ∧ Tabs T H2 ∧ ((i = 0 ∧ H2 D = some (.lst [])) ∨ (i = 1 ∧ ∃ d, Fr H d ∧ H2 D = some (.lst [.ref d]) ∧ DiceAt H2 d))) ⟨Ext.new hD, t1.same (Same.new hD), .inl ⟨rfl, upd_same⟩⟩ (fun i H2 _ ⟨x2, _⟩ => SqL.of (x2.lst p1)) (fun i x H2 hx ⟨x2, t2, h2⟩ => ?_) (fun H2 ⟨x2, t2, h2⟩ => ?_)
      · have hi : i = 0 := by
          have := (List.getElem?_eq_some_iff.mp hx).1
          simpa using this
        subst hi
        obtain rfl := Option.some.inj hx
        rcases h2 with ⟨_, d2⟩ | ⟨z, _⟩
        case inr => cases z
        refine ⟨rfl, .int c, rfl, c, rfl, fun H3 d hd s3 dice => ?_⟩
        have hdD : d ≠ D := fun z => by rw [z, d2] at hd; cases hd
        refine ⟨[], s3 _ _ d2, by decide, ?_, (t2.same s3).lst (s3 _ _ d2), .inr ⟨rfl, d, fr_of (x1.trans x2) hd, upd_same, ?_⟩⟩
        · exact ext_writeF (x2.trans (Ext.of s3)) fun o e => by rw [hD] at e; cases e
        · obtain ⟨u, v, w', e⟩ := dice
          exact ⟨u, v, w', by rw [upd_ne hdD]; exact e⟩
      · rcases h2 with ⟨z, _⟩ | ⟨_, d, hd, d2, dice⟩
        · cases z
        · exact q H2 D d (fr_of x1 hD) hd (x1.trans x2) t2 d2 dice
    refine ⟨.ref a, rfl, .int 1, rfl, 1, rfl, a, _, rfl, hA, fun p hp => ?_⟩
    have ec : cutV (ns.map V.int) none (some 1) = (ns.take 1).map V.int := by
      have := cut_take (ns.map V.int) 1
      rw [List.map_take]
      exact this
    rw [ec]
    have x1 : Ext H (upd H p (.lst ((ns.take 1).map V.int))) := Ext.new hp
    have t1 : Tabs T (upd H p (.lst ((ns.take 1).map V.int))) := hT.same (Same.new hp)
    refine ⟨.ref p, rfl, Nat.zero_le _, fun pe hpe => ?_⟩
    have x2 : Ext (upd H p (.lst ((ns.take 1).map V.int))) (upd (upd H p (.lst ((ns.take 1).map V.int))) pe (.lst [])) := Ext.new hpe
    have t2 := t1.same (Same.new (o := .lst []) hpe)
    refine ⟨_, _, .lst (SqL.of (x2.lst upd_same)) (dpInts _), .lst (SqL.of upd_same) .nil, shapedIntsL _, by decide +kernel, _, rfl, ?_⟩
    rw [eqv_nilL]
    cases ns with
    | nil =>
      refine iteT ?_
      refine ⟨by show 1 ≤ sizeLine; decide, fun p3 hp3 => ?_⟩
      refine ⟨.ref p3, rfl, p3, rfl, ⟨_, SqL.of upd_same⟩, fun D hD => ?_⟩
      exact fin p3 0 _ ((x1.trans x2).trans (Ext.new hp3)) (t2.same (Same.new hp3)) upd_same D hD
    | cons c r =>
      refine iteF ?_
      refine ⟨.ref p, rfl, p, rfl, ⟨_, SqL.of (x2.lst upd_same)⟩, fun D hD => ?_⟩
      exact fin p c _ (x1.trans x2) t2 (x2.lst upd_same) D hD
/-! ### the law's own worth -/
def spLWorth (K : PySem.W.Frag) (T : List (Addr × Str)) : Sp := fun vs H Q _ => ∃ (v1 v2 : V) (row lot : List Int), vs = [v1, v2] ∧ TupI K H v1 row ∧ TupI K H v2 lot ∧ LotOk row.length lot ∧ lot.length ≤ 1000 ∧ Tabs T H ∧ ∀ H', Ext H H' → Tabs T H' → Q (.int (W row lot)) H'
theorem ok_lworth {f : Addr} {fd : FuncData} {k : Nat} (F : Fun K "_law_worth" "_law_worth" sLWorth f fd) (ms : mg "sum" = none) : FnOk P w K mg base CX0 (k + 1) f fd ["_law_row", "_law_lot"] (spLWorth K T) := by
  refine okC F scLWorth (fun vs H Q E h => ?_) (fun cdv hcd A outer s H vs Q E hr h => ?_)
  · obtain ⟨v1, v2, row, lot, rfl, _⟩ := h
    rfl
  · obtain ⟨v1, v2, row, lot, rfl, ⟨pr, rfl, hR⟩, ⟨pl, rfl, hL⟩, hok, hln, hT, q⟩ := h
    refine ⟨_, pss_one (ps_ret (pe_callB (cr_sum rfl) (by rfl) ms (by decide +kernel) (pa_cons (pe_lc (own := [("_law_thing", 2)]) (g := gName 2) (tt := tYes) rfl scLWorth.nd (pi_tup (pv 1)) (blkOk_by (N := ["_law_row", "_law_lot", "_law_thing"]) (sc := defScope sLWorth) (by decide +kernel)) (fun _ _ _ _ _ => pg_name (i := 2) scLWorth.nd rfl (Or.inl rfl)) (fun _ _ _ _ _ => pts_nil)
        (te := tOp (rIxT K) (tVar 0) (tVar 2)) (fun _ _ _ _ _ => pe_ix ix_tup (pv 0) (pv 2) (fun _ _ => rfl))) pa_nil))), ?_⟩
    have wt := walk_tup (K := K) (a := pl) (xs := lot.map V.int)
    rw [List.length_map] at wt
    refine ⟨.ref pl, rfl, pl, rfl, ⟨_, hL⟩, fun D hD => lc_gen (T := T) wt IntR.st (fun i => some (at0 row (lot.getD i 0))) hln hT hD (fun H1 x1 => x1.seqT hL) (fun i x H1 H' acc Qt Qf hi x1 t1 d1 y hq _ => ?_) (fun H1 ys x1 t1 d1 r1 => ?_)⟩
    · obtain ⟨rfl, hx⟩ := y
      rw [List.getElem?_map, List.getElem?_eq_getElem hi] at hx
      obtain rfl := Option.some.inj hx
      obtain ⟨b0, b1⟩ := hok lot[i] (List.getElem_mem hi)
      refine ⟨rfl, .ref pr, rfl, .int lot[i], rfl, pr, _, lot[i], _, rfl, rfl, x1.seqT hR, atI_at0 b0 b1, hq _ _ _ rfl (Ext.refl _) t1 ?_⟩
      show V.int _ = V.int _
      simp [hi]
    · rw [filterMap_some, map_at0] at r1
      have eys := rels_ints r1
      subst eys
      exact ⟨D, lot.map (at0 row), rfl, SqL.of d1, q H1 x1 t1⟩
end
end PM
namespace PM
open PySem PySem.Spec PyProof.Rows L2 GenW
section
variable {P : Program} {w : World} {K : PySem.W.Frag} {mg : Str → Option Value} {base : Heap} {T : List (Addr × Str)}
def spLBut (K : PySem.W.Frag) (T : List (Addr × Str)) : Sp := fun vs H Q _ => ∃ (a b : Addr) (R L : List (List Int)) (m : Nat), vs = [.ref a, .ref b] ∧ LofT K H a R ∧ SofT K H b L ∧ Fits R L m ∧ (∀ l ∈ L, l.length ≤ 1000) ∧ R.length ≤ 1000 ∧ Tabs T H ∧
  ∀ H', Ext H H' → Tabs T H' → Q (.bl (butOne R L)) H'
theorem ok_lbut {f fW : Addr} {fd fdW : FuncData} {k : Nat} (F : Fun K "_law_but_one" "_law_but_one" sLBut f fd) (mr : mg "range" = none) (ml : mg "len" = none) (mm : mg "min" = none)
    (FW : Fun K "_law_worth" "_law_worth" sLWorth fW fdW) (bW : Binds K fdW ["_law_row", "_law_lot"] []) (gW : mg "_law_worth" = some (.ref fW)) (GW : FnOk P w K mg base CX0 (k + 1) fW fdW ["_law_row", "_law_lot"] (spLWorth K T)) :
    FnOk P w K mg base CX0 (k + 2) f fd ["_law_rows", "_law_lots"] (spLBut K T) := by
  refine okC F scLBut (fun vs H Q E h => ?_) (fun cdv hcd A outer s H vs Q E hr h => ?_)
  · obtain ⟨a, b, R, L, m, rfl, _⟩ := h
    rfl
  · obtain ⟨a, b, R, L, m, rfl, ⟨vr, hR, tR⟩, hLL, fit, hlen, hn, hT, q⟩ := h
    have hvr : ((vr.length : Nat) : Int).toNat = R.length := by rw [tR.1]; omega
    refine ⟨_, pss_cons (ps_for PassesOwn.never rfl (pi_range1 (by rfl) mr (pa_cons (pe_callB (cr_len rfl) (by rfl) ml PySem.boot_len (pa_cons (pv 0) pa_nil)) pa_nil)) (pg_name (i := 2) scLBut.nd rfl (.inr rfl))
        (pss_one (ps_for PassesOwn.never rfl (PI.either (pi_list (pv 1)) (pi_tup (pv 1))) (pg_name (i := 3) scLBut.nd rfl (.inr rfl))
          (pss_cons (ps_setLc (i := 4) (own := [("_law_thing", 5)]) (g := gName 5) (tt := tYes) (te := tOp (rI0 fun i j => .int (i - j)) (tCall (spLWorth K T) [] E0 (tCons (tOp (rIxL K) (tVar 0) (tVar 2)) (tCons (tVar 3) tNil))) (tOp (rIxT K) (tOp (rIxL K) (tVar 0) (tVar 2)) (tVar 5))) rfl scLBut.nd rfl rfl (sw_true rfl rfl rfl (by decide +kernel)) (pi_tup (pv 3)) (blkOk_by (N := ["_law_rows", "_law_lots", "_law_j", "_law_lot", "_law_less", "_law_thing"]) (sc := defScope sLBut) (by decide +kernel)) (fun _ _ _ _ _ => pg_name (i := 5) scLBut.nd rfl (Or.inl rfl)) (fun _ _ _ _ _ => pts_nil)
              (fun _ _ _ _ _ => pe_op op_sub (pe_call GW hr (by rfl) gW FW.kp bW .nil pass0 (pa_cons (pe_ix ix_list (pv 0) (pv 2) (fun _ _ => rfl)) (pa_cons (pv 3) pa_nil))) (pe_ix ix_tup (pe_ix ix_list (pv 0) (pv 2) (fun _ _ => rfl)) (pv 5) (fun _ _ => rfl))))
          (pss_one (ps_if (PW.pt (pw_and (pt_cmpR (op_neD hr.units) (pv 3) (pe_tup pa_nil) (nomark _)) (pw_and1
            (pt_cmpR op_lt (pe_call GW hr (by rfl) gW FW.kp bW .nil pass0 (pa_cons (pe_ix ix_list (pv 0) (pv 2) (fun _ _ => rfl)) (pa_cons (pe_ix ix_lt (pv 1) (pv 2) (fun _ _ => rfl)) pa_nil)))
              (pe_callB (cr_min rfl) (by rfl) mm (by decide +kernel) (pa_cons (pv 4) pa_nil)) (nomark _)))))
            (pss_one (ps_ret pe_bl)) pss_nil)))))) (pss_one (ps_ret pe_bl)), ?_⟩
    refine ⟨.ref a, rfl, a, vr, rfl, .inl hR, _, rfl, by have := tR.1; omega, by have := tR.1; omega, ?_⟩
    refine for_range (lo := 0) (n := ((vr.length : Nat) : Int).toNat) (fun i σ H1 => ∃ y2 y3 y4, σ = [some (.ref a), some (.ref b), y2, y3, y4, none] ∧ Ext H H1 ∧ Tabs T H1 ∧ ∀ i' < i, (L.all fun lot => butAt (R.getD i' []) (L.getD i' []) lot) = true)
      ⟨none, none, none, rfl, Ext.refl H, hT, fun i' hi' => absurd hi' (Nat.not_lt_zero _)⟩ (fun i σ H1 hi ⟨y2, y3, y4, es, x1, t1, done⟩ => ?_) (fun σ H1 ⟨y2, y3, y4, es, x1, t1, done⟩ => ?_)
    · subst es
      rw [hvr] at hi
      rw [Int.zero_add]
      obtain ⟨rv, erv, trv⟩ := tR.get hi
      have hi' : i < L.length := by rw [fit.len]; exact hi
      obtain ⟨vl, hL, tL⟩ := hLL.vl
      have hvl : vl.length = L.length := tL.1
      refine either_read (b := b) rfl (hL.imp x1.seqL x1.seqT) fun J G wk hG => ?_
      refine for_it wk (fun j σ H2 => ∃ y3 y4, σ = [some (.ref a), some (.ref b), some (.int (i : Nat)), y3, y4, none] ∧ Ext H1 H2 ∧ Tabs T H2 ∧ ∀ lot ∈ L.take j, butAt (R.getD i []) (L.getD i []) lot = true)
        ⟨y3, y4, rfl, Ext.refl _, t1, fun lot hl => absurd hl (by simp)⟩ (fun j σ H2 _ ⟨_, _, _, x2, _⟩ => hG _ x2) (fun j x σ H2 H' hj ⟨y3, y4, es, x2, t2, dn⟩ y => ?_) (fun σ H2 ⟨y3, y4, es, x2, t2, dn⟩ => ⟨_, y3, y4, es, x1.trans x2, t2, fun i' hi'' => ?_⟩)
      · subst es
        obtain ⟨rfl, hx⟩ := y
        have hjl : j < L.length := by rw [← hvl]; exact hj
        obtain ⟨pl, rfl, hpl⟩ := tL.2 j x _ hx (List.getElem?_eq_getElem hjl)
        obtain ⟨mv, hmv, tm⟩ := tL.get hi'
        obtain ⟨pr, rfl, hpr⟩ := id trv
        have x12 := x1.trans x2
        have hlj := hlen _ (List.getElem_mem hjl)
        have snoc : ∀ (bb : butAt (R.getD i []) (L.getD i []) L[j] = true), ∀ lot ∈ L.take (j + 1), butAt (R.getD i []) (L.getD i []) lot = true := fun bb lot hl => by
          rw [List.take_add_one, List.getElem?_eq_getElem hjl] at hl
          rcases List.mem_append.mp hl with z | z
          · exact dn lot z
          · have : lot = L[j] := by simpa using z
            rw [this]
            exact bb
        have hbutdef : butAt (R.getD i []) (L.getD i []) L[j] = !(decide (L[j] ≠ []) && decide (W R[i] L[i] < W R[i] L[j] - mx (L[j].map (at0 R[i])))) := by
          unfold butAt
          rw [getD_at hi, getD_at hi']
        have wt := walk_tup (K := K) (a := pl) (xs := L[j].map V.int)
        rw [List.length_map] at wt
        -- less = [..]
        refine ⟨.ref pl, rfl, pl, rfl, ⟨_, x12.seqT hpl⟩, fun D hD => lc_gen (T := T) wt IntR.st (fun i2 => some (W R[i] L[j] - at0 R[i] (L[j].getD i2 0))) hlj t2 hD (fun H3 x3 => (x12.trans x3).seqT hpl) (fun i2 x H3 H' acc Qt Qf hi2 x3 t3 d3 y hq _ => ?_) (fun H3 ys x3 t3 d3 r3 => ?_)⟩
        · obtain ⟨rfl, hx⟩ := y
          rw [List.getElem?_map, List.getElem?_eq_getElem hi2] at hx
          obtain rfl := Option.some.inj hx
          have x123 := x12.trans x3
          obtain ⟨b0, b1⟩ := fit.lot hi hjl L[j][i2] (List.getElem_mem hi2)
          refine ⟨rfl, .ref a, rfl, .int (i : Nat), rfl, a, vr, _, .ref pr, rfl, rfl, x123.seqL hR, atI_nat erv, .ref pl, rfl, .ref pr, .ref pl, R[i], L[j], rfl, ⟨pr, rfl, x123.seqT hpr⟩, ⟨pl, rfl, x123.seqT hpl⟩, fit.lot hi hjl, hlj, t3, fun H4 x4 t4 => ?_⟩
          have x1234 := x123.trans x4
          refine ⟨.ref a, rfl, .int (i : Nat), rfl, a, vr, _, .ref pr, rfl, rfl, x1234.seqL hR, atI_nat erv, .int L[j][i2], rfl, pr, _, _, _, rfl, rfl, x1234.seqT hpr, atI_at0 b0 b1, _, _, rfl, rfl, hq _ _ _ rfl x4 t4 ?_⟩
          show V.int _ = V.int _
          simp [hi2]
        · rw [filterMap_some, map_at0 (fun t => W R[i] L[j] - at0 R[i] t)] at r3
          have eys := rels_ints r3
          subst eys
          have x123 := x12.trans x3
          refine ⟨.ref pl, rfl, ⟨Nat.zero_le _, fun pe hpe => ?_⟩⟩
          have x4 : Ext H3 (upd H3 pe (.tup [])) := Ext.new hpe
          have t4 := t3.same (Same.new (o := .tup []) hpe)
          have x34 := x123.trans x4
          refine ⟨_, _, .tup (x34.seqT hpl) (dpInts _), .tup (SqT.of upd_same) .nil, shapedInts _, shapedInts [], _, rfl, ?_⟩
          rw [eqv_nil]
          by_cases hnil : L[j] = []
          · rw [decide_eq_true hnil]
            refine iteF (iteF ⟨_, _, rfl, (x2.trans x3).trans x4, t4, snoc ?_⟩)
            rw [hbutdef, hnil]
            rfl
          · rw [decide_eq_false hnil]
            refine iteT ?_
            have ixm : ∀ {H5 : Hp} {Q : V → Hp → Prop}, Ext H H5 → Q mv H5 → (rIxL K (.ref b) (.int (i : Nat)) H5 Q ∨ rIxT K (.ref b) (.int (i : Nat)) H5 Q) := fun {H5 Q} x5 qq => by
              rcases hL with hL | hL
              · exact .inl ⟨b, vl, (i : Nat), mv, rfl, rfl, x5.seqL hL, atI_nat hmv, qq⟩
              · exact .inr ⟨b, vl, (i : Nat), mv, rfl, rfl, x5.seqT hL, atI_nat hmv, qq⟩
            refine ⟨.ref a, rfl, .int (i : Nat), rfl, a, vr, _, .ref pr, rfl, rfl, x34.seqL hR, atI_nat erv, .ref b, rfl, .int (i : Nat), rfl, ixm x34 ?_⟩
            refine ⟨.ref pr, mv, R[i], L[i], rfl, ⟨pr, rfl, x34.seqT hpr⟩, tm.ext x34, fit.lot hi hi', hlen _ (List.getElem_mem hi'), t4, fun H5 x5 t5 => ?_⟩
            have hnl : 0 < (L[j].map fun t => W R[i] L[j] - at0 R[i] t).length := by
              rw [List.length_map]
              exact List.length_pos_iff.mpr hnil
            refine ⟨.ref D, rfl, D, _, rfl, SqL.of ((x4.trans x5).lst d3), hnl, fun mm' hm1 hm2 => ?_⟩
            have em := min_less hnil hm1 hm2
            have x345 := x34.trans x5
            refine ⟨_, _, rfl, rfl, _, rfl, ite2 (fun hlt2 => ?_) (fun hge => ?_)⟩
            · have e : butOne R L = false := by
                unfold butOne
                rw [List.all_eq_false]
                refine ⟨i, List.mem_range.mpr hi, ?_⟩
                rw [Bool.not_eq_true, List.all_eq_false]
                refine ⟨L[j], List.getElem_mem hjl, ?_⟩
                rw [hbutdef]
                have := of_decide_eq_true hlt2
                rw [em] at this
                simp [hnil, this]
              have q' := q H5 x345 t5
              rw [e] at q'
              exact q'
            · refine ⟨_, _, rfl, ((x2.trans x3).trans x4).trans x5, t5, snoc ?_⟩
              rw [hbutdef]
              have : ¬ (W R[i] L[i] < W R[i] L[j] - mx (L[j].map (at0 R[i]))) := fun z => hge (decide_eq_true (by rw [em]; exact z))
              simp [this]
      · by_cases e : i' = i
        · subst e
          rw [List.all_eq_true]
          intro lot hl
          refine dn lot ?_
          rw [hvl, List.take_length]
          exact hl
        · exact done i' (by omega)
    · subst es
      have q' := q H1 x1 t1
      have e : butOne R L = true := by
        unfold butOne
        rw [List.all_eq_true]
        intro i' hi'
        exact done i' (by rw [hvr]; exact List.mem_range.mp hi')
      rw [e] at q'
      exact q'
end
end PM
namespace PM
open PySem PySem.Spec PyProof.Rows L2 GenW
abbrev sLaw : Stmt := topS 34
/-- what the top has written -/
structure Defs (K : PySem.W.Frag) (mg : Str → Option Value) where
  fCheck : Addr
  dCheck : FuncData
  FCheck : Fun K "check_rows" "check_rows" sCheck fCheck dCheck
  mCheck : mg "check_rows" = some (.ref fCheck)
  bCheck : Binds K dCheck ["rows"] []
  fWorth : Addr
  dWorth : FuncData
  FWorth : Fun K "worth" "worth" sWorth fWorth dWorth
  mWorth : mg "worth" = some (.ref fWorth)
  bWorth : Binds K dWorth ["row", "things"] []
  fEnvies : Addr
  dEnvies : FuncData
  FEnvies : Fun K "envies" "envies" sEnvies fEnvies dEnvies
  mEnvies : mg "envies" = some (.ref fEnvies)
  bEnvies : Binds K dEnvies ["rows", "lots", "one", "other"] []
  fCalm : Addr
  dCalm : FuncData
  FCalm : Fun K "is_calm" "is_calm" sCalm fCalm dCalm
  mCalm : mg "is_calm" = some (.ref fCalm)
  bCalm : Binds K dCalm ["rows", "lots"] []
  fBut : Addr
  dBut : FuncData
  FBut : Fun K "but_one" "but_one" sBut fBut dBut
  mBut : mg "but_one" = some (.ref fBut)
  bBut : Binds K dBut ["rows", "lots"] []
  fEnviers : Addr
  dEnviers : FuncData
  FEnviers : Fun K "enviers" "enviers" sEnviers fEnviers dEnviers
  mEnviers : mg "enviers" = some (.ref fEnviers)
  bEnviers : Binds K dEnviers ["rows", "lots"] []
  fRing : Addr
  dRing : FuncData
  FRing : Fun K "ring_of" "ring_of" sRing fRing dRing
  mRing : mg "ring_of" = some (.ref fRing)
  bRing : Binds K dRing ["backs"] []
  fPassed : Addr
  dPassed : FuncData
  FPassed : Fun K "passed" "passed" sPassed fPassed dPassed
  mPassed : mg "passed" = some (.ref fPassed)
  bPassed : Binds K dPassed ["lots", "ring"] []
  fShare : Addr
  dShare : FuncData
  FShare : Fun K "share" "share" sShare fShare dShare
  mShare : mg "share" = some (.ref fShare)
  bShare : Binds K dShare ["rows"] []
  fRounds : Addr
  dRounds : FuncData
  FRounds : Fun K "in_rounds" "in_rounds" sRounds fRounds dRounds
  mRounds : mg "in_rounds" = some (.ref fRounds)
  bRounds : Binds K dRounds ["rows", "order"] []
  fGiven : Addr
  dGiven : FuncData
  FGiven : Fun K "all_given" "all_given" sGiven fGiven dGiven
  mGiven : mg "all_given" = some (.ref fGiven)
  bGiven : Binds K dGiven ["rows", "lots"] []
  fLeast : Addr
  dLeast : FuncData
  FLeast : Fun K "least_worth" "least_worth" sLeast fLeast dLeast
  mLeast : mg "least_worth" = some (.ref fLeast)
  bLeast : Binds K dLeast ["rows", "lots"] []
  fPut : Addr
  dPut : FuncData
  FPut : Fun K "put_on" "put_on" sPut fPut dPut
  mPut : mg "put_on" = some (.ref fPut)
  bPut : Binds K dPut ["sums", "place", "much"] []
  fFair : Addr
  dFair : FuncData
  FFair : Fun K "fair_part" "fair_part" sFair fFair dFair
  mFair : mg "fair_part" = some (.ref fFair)
  bFair : Binds K dFair ["rows", "one"] []
  fLFlat : Addr
  dLFlat : FuncData
  FLFlat : Fun K "_law_flat" "_law_flat" sLFlat fLFlat dLFlat
  mLFlat : mg "_law_flat" = some (.ref fLFlat)
  bLFlat : Binds K dLFlat ["_law_rows"] []
  fLDice : Addr
  dLDice : FuncData
  FLDice : Fun K "_law_dice" "_law_dice" sLDice fLDice dLDice
  mLDice : mg "_law_dice" = some (.ref fLDice)
  bLDice : Binds K dLDice ["_law_cell"] []
  fLRoll : Addr
  dLRoll : FuncData
  FLRoll : Fun K "_law_roll" "_law_roll" sLRoll fLRoll dLRoll
  mLRoll : mg "_law_roll" = some (.ref fLRoll)
  bLRoll : Binds K dLRoll ["_law_dice_here", "_law_many"] []
  fLRounds : Addr
  dLRounds : FuncData
  FLRounds : Fun K "_law_rounds" "_law_rounds" sLRounds fLRounds dLRounds
  mLRounds : mg "_law_rounds" = some (.ref fLRounds)
  bLRounds : Binds K dLRounds ["_law_script", "_law_most_now"] []
  fLTold : Addr
  dLTold : FuncData
  FLTold : Fun K "_law_told" "_law_told" sLTold fLTold dLTold
  mLTold : mg "_law_told" = some (.ref fLTold)
  bLTold : Binds K dLTold ["_law_what"] []
  fLWorth : Addr
  dLWorth : FuncData
  FLWorth : Fun K "_law_worth" "_law_worth" sLWorth fLWorth dLWorth
  mLWorth : mg "_law_worth" = some (.ref fLWorth)
  bLWorth : Binds K dLWorth ["_law_row", "_law_lot"] []
  fLBut : Addr
  dLBut : FuncData
  FLBut : Fun K "_law_but_one" "_law_but_one" sLBut fLBut dLBut
  mLBut : mg "_law_but_one" = some (.ref fLBut)
  bLBut : Binds K dLBut ["_law_rows", "_law_lots"] []
  fLaw : Addr
  dLaw : FuncData
  FLaw : Fun K "law" "law" sLaw fLaw dLaw
  mLaw : mg "law" = some (.ref fLaw)
  bLaw : Binds K dLaw ["_law_script"] []
  z_any : mg "any" = none
  z_len : mg "len" = none
  z_tuple : mg "tuple" = none
  z_sum : mg "sum" = none
  z_range : mg "range" = none
  z_max : mg "max" = none
  z_enumerate : mg "enumerate" = none
  z_list : mg "list" = none
  z_reversed : mg "reversed" = none
  z_min : mg "min" = none
  z_sorted : mg "sorted" = none
  z_zip : mg "zip" = none
  z_abs : mg "abs" = none
  z_int : mg "int" = none
  cBadWish : Addr
  gBadWish : mg "BadWish" = some (.ref cBadWish)
  cBadRoom : Addr
  gBadRoom : mg "BadRoom" = some (.ref cBadRoom)
  cBadMatch : Addr
  gBadMatch : mg "BadMatch" = some (.ref cBadMatch)
  cBadPaper : Addr
  gBadPaper : mg "BadPaper" = some (.ref cBadPaper)
  cBadSize : Addr
  gBadSize : mg "BadSize" = some (.ref cBadSize)
  cBadText : Addr
  gBadText : mg "BadText" = some (.ref cBadText)
  cBadStore : Addr
  gBadStore : mg "BadStore" = some (.ref cBadStore)
  cNoSuch : Addr
  gNoSuch : mg "NoSuch" = some (.ref cNoSuch)
  cBadDeed : Addr
  gBadDeed : mg "BadDeed" = some (.ref cBadDeed)
  ex : OwnExc K mg "BadSize" cBadSize
  eBadWish : PySem.W.exmOne K (.ref cBadSize) (.ref cBadWish) = some false
  eBadRoom : PySem.W.exmOne K (.ref cBadSize) (.ref cBadRoom) = some false
  eBadMatch : PySem.W.exmOne K (.ref cBadSize) (.ref cBadMatch) = some false
  eBadPaper : PySem.W.exmOne K (.ref cBadSize) (.ref cBadPaper) = some false
  eBadSize : PySem.W.exmOne K (.ref cBadSize) (.ref cBadSize) = some true
  kWorth : Addr
  tWorth : Addr
  hWorth : dWorth.code = .ref kWorth
  kCheck : Addr
  tCheck : Addr
  hCheck : dCheck.code = .ref kCheck
  kCalm : Addr
  tCalm : Addr
  hCalm : dCalm.code = .ref kCalm
  kBut : Addr
  tBut : Addr
  hBut : dBut.code = .ref kBut
  kRounds : Addr
  tRounds : Addr
  hRounds : dRounds.code = .ref kRounds
  kLaw : Addr
  tLaw : Addr
  hLaw : dLaw.code = .ref kLaw
/-- the tables of the defs that hold generator expressions or lambdas -/
def Defs.T {K : PySem.W.Frag} {mg : Str → Option Value} (d : Defs K mg) : List (Addr × Str) := [(d.tWorth, inName "worth" "<genexpr>"), (d.tCheck, inName "check_rows" "<genexpr>"), (d.tCalm, inName "is_calm" "<genexpr>"), (d.tBut, inName "but_one" "<genexpr>"), (d.tRounds, inName "in_rounds" "<lambda>"), (d.tLaw, inName "law" "<lambda>")]
def Defs.cs {K : PySem.W.Frag} {mg : Str → Option Value} (d : Defs K mg) : List (Addr × Addr) := [(d.kWorth, d.tWorth), (d.kCheck, d.tCheck), (d.kCalm, d.tCalm), (d.kBut, d.tBut), (d.kRounds, d.tRounds), (d.kLaw, d.tLaw)]
structure Defs.Ok {K : PySem.W.Frag} {mg : Str → Option Value} (d : Defs K mg) (base : Heap) : Prop where
  gWorth : Gn base mg d.T d.kWorth d.tWorth (inName "worth" "<genexpr>")
  gCheck : Gn base mg d.T d.kCheck d.tCheck (inName "check_rows" "<genexpr>")
  gCalm : Gn base mg d.T d.kCalm d.tCalm (inName "is_calm" "<genexpr>")
  gBut : Gn base mg d.T d.kBut d.tBut (inName "but_one" "<genexpr>")
  gRounds : Gn base mg d.T d.kRounds d.tRounds (inName "in_rounds" "<lambda>")
  gLaw : Gn base mg d.T d.kLaw d.tLaw (inName "law" "<lambda>")
theorem Defs.ok_of {K : PySem.W.Frag} {mg : Str → Option Value} (d : Defs K mg) {base : Heap} (nd : (d.T.map (·.1)).Nodup) (h : ∀ p ∈ d.cs, LamX.TabB base mg p.1 p.2) : d.Ok base := by
  have uq : ∀ {P : Addr} {s : Str}, (P, s) ∈ d.T → ∀ p ∈ d.T, p.1 = P → p.2 = s := fun {P s} hm p hp e => by
    obtain ⟨i, hi⟩ := List.mem_iff_getElem?.mp hp
    obtain ⟨j, hj⟩ := List.mem_iff_getElem?.mp hm
    have e1 : (d.T.map (·.1))[i]? = some P := by rw [List.getElem?_map, hi]; exact congrArg some e
    have e2 : (d.T.map (·.1))[j]? = some P := by rw [List.getElem?_map, hj]; rfl
    have := nd_ix nd e1 e2
    subst this
    rw [hi] at hj
    exact congrArg Prod.snd (Option.some.inj hj)
  have m : ∀ {P : Addr} {s : Str} {c : Addr}, (c, P) ∈ d.cs → (P, s) ∈ d.T → Gn base mg d.T c P s := fun {P s c} h1 h2 => ⟨h _ h1, h2, uq h2⟩
  exact ⟨m (by unfold Defs.cs; simp) (by unfold Defs.T; simp), m (by unfold Defs.cs; simp) (by unfold Defs.T; simp), m (by unfold Defs.cs; simp) (by unfold Defs.T; simp), m (by unfold Defs.cs; simp) (by unfold Defs.T; simp), m (by unfold Defs.cs; simp) (by unfold Defs.T; simp), m (by unfold Defs.cs; simp) (by unfold Defs.T; simp)⟩
theorem Defs.tabs0 {K : PySem.W.Frag} {mg : Str → Option Value} (d : Defs K mg) {H : Hp} (h : ∀ p ∈ d.cs, H p.2 = some (.tbl #[])) : Tabs d.T H := fun p hp => by
  have hm : ∃ c, (c, p.1) ∈ d.cs := by
    unfold Defs.T at hp
    unfold Defs.cs
    simp only [List.mem_cons, List.not_mem_nil, or_false] at hp
    rcases hp with h | h | h | h | h | h <;> subst h
    · exact ⟨d.kWorth, by simp⟩
    · exact ⟨d.kCheck, by simp⟩
    · exact ⟨d.kCalm, by simp⟩
    · exact ⟨d.kBut, by simp⟩
    · exact ⟨d.kRounds, by simp⟩
    · exact ⟨d.kLaw, by simp⟩
  obtain ⟨c, hc⟩ := hm
  refine ⟨#[], h _ hc, trivial, fun pos cv z => ?_⟩
  have z : codeAmong pos [] = some cv := z
  simp [codeAmong] at z
end PM
namespace PM
open PySem PySem.Spec PyProof.Rows L2 GenW
abbrev lawN : List Str := ["_law_script", "_law_dice_here", "_law_many", "_law_things", "_law_k", "_law_rows", "_law_order", "_law_lots", "_law_thing", "_law_drawn_lots", "_law_hurt", "_law_sums", "_law_one", "_law_place", "_law_turns_now", "_law_left", "_law_due", "_law_best", "_law_lot", "_law_j", "_law_row", "_law_other"]
theorem scLaw : FnScope lawN ["_law_script"] (defScope sLaw) := ⟨rfl, rfl, rfl, by decide +kernel, rfl, by decide +kernel, by decide +kernel⟩
/-- the law's own frame -/
abbrev lX (P : Program) (w : World) (K : PySem.W.Frag) (mg : Str → Option Value) (base : Heap) (f : Addr) (cdv : Value) (A : Around) (outer : List Env) (s : Shared) (H : Hp) (E : XK) : Cx := (cxOf CX0 P w K mg base lawN "law" (defScope sLaw) f cdv A outer s H E).nox
/-- the law's names: script, dice, many, things, k, rows, order, lots, thing, drawn, hurt, sums, one, place, turns, left, due, best; the comprehensions' own -/
abbrev lS (sc d n m k ra ob lo th dr hu su on pl tu le du be : Option V) : L2.St := [sc, d, n, m, k, ra, ob, lo, th, dr, hu, su, on, pl, tu, le, du, be, none, none, none, none]
/-- from Pre the statement goes on to Post -/
def Step (X : Cx) (st : Stmt) (Pre Post : L2.St → Hp → Prop) : Prop := ∃ t, PS X st t ∧ ∀ (D : Ends) (σ : L2.St) (H : Hp), Pre σ H → (∀ σ' H', Post σ' H' → D.nx σ' H') → t D σ H
inductive Steps (X : Cx) : List Stmt → (L2.St → Hp → Prop) → (L2.St → Hp → Prop) → Prop
  | one {st : Stmt} {Pre Post : L2.St → Hp → Prop} (h : Step X st Pre Post) : Steps X [st] Pre Post
  | cons {st : Stmt} {r : List Stmt} {Pre Mid Post : L2.St → Hp → Prop} (h : Step X st Pre Mid) (t : Steps X r Mid Post) : Steps X (st :: r) Pre Post
theorem Steps.run {X : Cx} {l : List Stmt} {Pre Post : L2.St → Hp → Prop} (h : Steps X l Pre Post) : ∃ t, PSs X l t ∧ ∀ (D : Ends) (σ : L2.St) (H : Hp), Pre σ H → (∀ σ' H', Post σ' H' → D.nx σ' H') → t D σ H := by
  induction h with
  | one h =>
    obtain ⟨t, p, q⟩ := h
    exact ⟨t, pss_one p, q⟩
  | cons h _ ih =>
    obtain ⟨t, p, q⟩ := h
    obtain ⟨u, p2, q2⟩ := ih
    exact ⟨tSeq t u, pss_cons p p2, fun D σ H hp hn => q _ σ H hp fun σ' H' hm => q2 D σ' H' hm hn⟩
def forBody (s : Stmt) : List Stmt := match s with
  | .For _ _ b _ _ => b
  | _ => []
abbrev lawB (i : Nat) : Stmt := (forBody ((defBody sLaw).getD 0 (.Pass ⟨0, 0, 0, 0⟩))).getD i (.Pass ⟨0, 0, 0, 0⟩)
/-- a list of tuples of whole numbers, in the heap itself -/
def LofH (K : PySem.W.Frag) (H : Hp) (a : Addr) (R : List (List Int)) : Prop := ∃ vs, H a = some (.lst vs) ∧ TupsI K H vs R
theorem LofH.ext {K : PySem.W.Frag} {H H' : Hp} {a : Addr} {R : List (List Int)} (h : LofH K H a R) (e : Ext H H') : LofH K H' a R := by
  obtain ⟨vs, h1, h2⟩ := h
  exact ⟨vs, e.lst h1, h2.ext e⟩
theorem LofH.t {K : PySem.W.Frag} {H : Hp} {a : Addr} {R : List (List Int)} (h : LofH K H a R) : LofT K H a R := by
  obtain ⟨vs, h1, h2⟩ := h
  exact ⟨vs, SqL.of h1, h2⟩
theorem LofH.ne {K : PySem.W.Frag} {H : Hp} {a p : Addr} {R : List (List Int)} (h : LofH K H a R) (n : H p = none) : a ≠ p := fun z => by
  obtain ⟨vs, h1, h2⟩ := h
  rw [z, n] at h1
  cases h1
/-- what stands of the rows and the order -/
structure LB (K : PySem.W.Frag) (T : List (Addr × Str)) (H0 : Hp) (ra ob : Addr) (R : List (List Int)) (order : List Nat) (H : Hp) : Prop where
  ext : Ext H0 H
  tabs : Tabs T H
  rows : LofH K H ra R
  ord : H ob = some (.lst (natV order))
theorem LB.go {K : PySem.W.Frag} {T : List (Addr × Str)} {H0 H H' : Hp} {ra ob : Addr} {R : List (List Int)} {order : List Nat} (h : LB K T H0 ra ob R order H) (e : Ext H H') (t : Tabs T H') : LB K T H0 ra ob R order H' :=
  ⟨h.ext.trans e, t, h.rows.ext e, e.lst h.ord⟩
theorem roll_ext {H0 H H' : Hp} {d : Addr} (e : Ext H0 H) (f : Fr H0 d) (h : ∀ b, b ≠ d → H' b = H b) : Ext H0 H' := fun b o hb hn => by
  rw [h b (fun z => by
    rw [z] at hb
    obtain ⟨ps, e⟩ := f o hb
    exact hn ps e)]
  exact e b o hb hn
theorem roll_tabs {T : List (Addr × Str)} {H H' : Hp} {d : Addr} (t : Tabs T H) (hd : DiceAt H d) (hd' : DiceAt H' d) (h : ∀ b, b ≠ d → H' b = H b) : Tabs T H' := by
  obtain ⟨a, b, c, e⟩ := hd
  obtain ⟨a', b', c', e'⟩ := hd'
  have : H' = upd H d (.lst [.int a', .int b', .int c']) := by
    funext x
    by_cases hx : x = d
    · subst hx
      rw [upd_same, e']
    · rw [upd_ne hx, h x hx]
  rw [this]
  exact t.lst e
theorem roll_del {H H' : Hp} {d : Addr} (h : ∀ b, b ≠ d → H' b = H b) : del H' d = del H d := by
  funext x
  by_cases hx : x = d
  · subst hx
    simp [del]
  · rw [del_ne hx, del_ne hx, h x hx]
theorem DiceAt.ext {H H' : Hp} {d : Addr} (h : DiceAt H d) (e : Ext H H') : DiceAt H' d := by
  obtain ⟨a, b, c, x⟩ := h
  exact ⟨a, b, c, e.lst x⟩
/-- the orders of the law -/
def lawOrder (n : Nat) : List Nat := (List.range n).filter (fun k => k % 2 == 1) ++ (List.range n).filter (fun k => k % 2 == 0)
theorem order_ok {n : Nat} (h0 : 0 < n) (h3 : n ≤ 3) : OrderOk (lawOrder n) n := by
  have : n = 1 ∨ n = 2 ∨ n = 3 := by omega
  rcases this with rfl | rfl | rfl
  · exact ⟨by decide, by decide, by decide, by decide⟩
  · exact ⟨by decide, by decide, by decide, by decide⟩
  · exact ⟨by decide, by decide, by decide, by decide⟩
section
variable {P : Program} {w : World} {K : PySem.W.Frag} {mg : Str → Option Value} {base : Heap} {f : Addr} {cdv : Value} {A : Around} {outer : List Env} {s : Shared} {H0 Hb : Hp} {E : XK} {T : List (Addr × Str)}
theorem step0 {fR : Addr} {dR : FuncData} {k : Nat} (hr : Room (k + 1) (A.deeper (envOfC "law" (defScope sLaw) s.heap.objs.size f cdv))) (FR : Fun K "_law_roll" "_law_roll" sLRoll fR dR) (bR : Binds K dR ["_law_dice_here", "_law_many"] []) (gR : mg "_law_roll" = some (.ref fR)) (GR : FnOk P w K mg base CX0 (k + 1) fR dR ["_law_dice_here", "_law_many"] spLRoll)
    {d : Addr} (fd : Fr H0 d) {sc k4 c5 o6 l7 t8 d9 h10 s11 o12 p13 t14 l15 d16 b17 : Option V} :
    Step (lX P w K mg base f cdv A outer s Hb E) (lawB 0) (fun σ H => ∃ n3 m3, σ = lS sc (some (.ref d)) n3 m3 k4 c5 o6 l7 t8 d9 h10 s11 o12 p13 t14 l15 d16 b17 ∧ Ext H0 H ∧ Tabs T H ∧ DiceAt H d)
      (fun σ H => ∃ n m : Nat, 0 < n ∧ n ≤ 3 ∧ m ≤ 5 ∧ σ = lS sc (some (.ref d)) (some (.int (n : Nat))) (some (.int (m : Nat))) k4 c5 o6 l7 t8 d9 h10 s11 o12 p13 t14 l15 d16 b17 ∧ Ext H0 H ∧ Tabs T H ∧ DiceAt H d) := by
  refine ⟨_, ps_asg (pe_tup (pa_cons (pe_op op_add pe_int (pe_call GR hr (by rfl) gR FR.kp bR .nil pass0 (pa_cons (pv 1) (pa_cons pe_int pa_nil)))) (pa_cons (pe_call GR hr (by rfl) gR FR.kp bR .nil pass0 (pa_cons (pv 1) (pa_cons pe_int pa_nil))) pa_nil)))
    (pg_tup rfl (pgs_cons (pg_name (i := 2) scLaw.nd rfl (.inr rfl)) (pgs_cons (pg_name (i := 3) scLaw.nd rfl (.inr rfl)) pgs_nil))), fun D σ H ⟨n3, m3, es, x0, t0, dc⟩ hn => ?_⟩
  subst es
  refine ⟨.ref d, rfl, d, 3, rfl, dc, by decide, by decide, fun r1 H1 h1a h1b h1 dc1 => ?_⟩
  have x1 := roll_ext x0 fd h1
  have t1 := roll_tabs t0 dc dc1 h1
  refine ⟨_, _, rfl, rfl, .ref d, rfl, d, 6, rfl, dc1, by decide, by decide, fun r2 H2 h2a h2b h2 dc2 => ?_⟩
  have x2 := roll_ext x1 fd h2
  have t2 := roll_tabs t1 dc1 dc2 h2
  refine ⟨by show 2 ≤ sizeLine; decide, fun pt hpt => ?_⟩
  refine ⟨pt, _, rfl, .inl (.inl upd_same), rfl, .int (1 + r1), [.int r2], rfl, .int r2, [], rfl, rfl, ?_⟩
  obtain ⟨n, rfl⟩ : ∃ n : Nat, r1 = (n : Int) := ⟨r1.toNat, by omega⟩
  obtain ⟨m, rfl⟩ : ∃ m : Nat, r2 = (m : Int) := ⟨r2.toNat, by omega⟩
  have e1 : (1 : Int) + (n : Int) = ((n + 1 : Nat) : Int) := by omega
  rw [e1]
  exact hn _ _ ⟨n + 1, m, by omega, by omega, by omega, rfl, x2.trans (Ext.new hpt), t2.same (Same.new hpt), dc2.ext (Ext.new hpt)⟩
end
end PM
namespace PM
open PySem PySem.Spec PyProof.Rows L2 GenW
/-- all but one address stays -/
def SameBut (d : Addr) (H H' : Hp) : Prop := ∀ b o, b ≠ d → H b = some o → H' b = some o
theorem SameBut.refl (d : Addr) (H : Hp) : SameBut d H H := fun _ _ _ h => h
theorem SameBut.trans {d : Addr} {H H1 H2 : Hp} (a : SameBut d H H1) (b : SameBut d H1 H2) : SameBut d H H2 := fun x o n h => b x o n (a x o n h)
theorem SameBut.of {d : Addr} {H H' : Hp} (e : Same H H') : SameBut d H H' := fun x o _ h => e x o h
theorem SameBut.roll {d : Addr} {H H' : Hp} (h : ∀ b, b ≠ d → H' b = H b) : SameBut d H H' := fun x o n e => by rw [h x n]; exact e
theorem SameBut.write {d a : Addr} {H H' : Hp} {o : HO} (e : SameBut d H H') (n : H a = none) : SameBut d H (upd H' a o) := fun x u hx h => by
  rw [upd_ne (fun z => by rw [z, n] at h; cases h)]
  exact e x u hx h
theorem SameBut.seqT {K : PySem.W.Frag} {d p : Addr} {H H' : Hp} {xs ys : List V} (e : SameBut d H H') (hd : H d = some (.lst ys)) (h : SqT K H p xs) : SqT K H' p xs := by
  rcases h with (h | ⟨ob, h⟩) | h
  · exact .inl (.inl (e _ _ (fun z => by rw [z, hd] at h; cases h) h))
  · exact .inl (.inr ⟨ob, e _ _ (fun z => by rw [z, hd] at h; cases h) h⟩)
  · exact .inr h
theorem SameBut.tups {K : PySem.W.Frag} {d : Addr} {H H' : Hp} {ys vs : List V} {R : List (List Int)} (e : SameBut d H H') (hd : H d = some (.lst ys)) (h : TupsI K H vs R) : TupsI K H' vs R := ⟨h.1, fun i v r a b => by
  obtain ⟨p, ep, hp⟩ := h.2 i v r a b
  exact ⟨p, ep, e.seqT hd hp⟩⟩
theorem SameBut.ext {d : Addr} {H0 H H' : Hp} (e : SameBut d H H') (x : Ext H0 H) (f : Fr H0 d) : Ext H0 H' := fun b o h n => e b o (fun z => by
  rw [z] at h
  obtain ⟨ps, e⟩ := f o h
  exact n ps e) (x b o h n)
theorem DiceAt.ne {H : Hp} {d p : Addr} (h : DiceAt H d) (n : H p = none) : p ≠ d := fun z => by
  obtain ⟨a, b, c, e⟩ := h
  rw [z, e] at n
  cases n
section
variable {P : Program} {w : World} {K : PySem.W.Frag} {mg : Str → Option Value} {base : Heap} {f : Addr} {cdv : Value} {A : Around} {outer : List Env} {s : Shared} {H0 Hb : Hp} {E : XK} {T : List (Addr × Str)}
theorem step1 {fR : Addr} {dR : FuncData} {k : Nat} (hr : Room (k + 1) (A.deeper (envOfC "law" (defScope sLaw) s.heap.objs.size f cdv))) (mr : mg "range" = none) (mt : mg "tuple" = none) (FR : Fun K "_law_roll" "_law_roll" sLRoll fR dR) (bR : Binds K dR ["_law_dice_here", "_law_many"] []) (gR : mg "_law_roll" = some (.ref fR)) (GR : FnOk P w K mg base CX0 (k + 1) fR dR ["_law_dice_here", "_law_many"] spLRoll)
    {d : Addr} (fd : Fr H0 d) {n m : Nat} (hn : n ≤ 3) (hm : m ≤ 5) {sc k4 o6 l7 t8 d9 h10 s11 o12 p13 t14 l15 d16 b17 : Option V} :
    Step (lX P w K mg base f cdv A outer s Hb E) (lawB 1) (fun σ H => ∃ c5, σ = lS sc (some (.ref d)) (some (.int (n : Nat))) (some (.int (m : Nat))) k4 c5 o6 l7 t8 d9 h10 s11 o12 p13 t14 l15 d16 b17 ∧ Ext H0 H ∧ Tabs T H ∧ DiceAt H d)
      (fun σ H => ∃ (ra : Addr) (R : List (List Int)), RowsOk R n m ∧ σ = lS sc (some (.ref d)) (some (.int (n : Nat))) (some (.int (m : Nat))) k4 (some (.ref ra)) o6 l7 t8 d9 h10 s11 o12 p13 t14 l15 d16 b17 ∧ Ext H0 H ∧ Tabs T H ∧ DiceAt H d ∧ ra ≠ d ∧ LofH K H ra R) := by
  refine ⟨_, ps_set (i := 5) scLaw.nd rfl (Or.inr rfl) (pe_lc (own := [("_law_j", 19)]) (g := gName 19) (tt := tYes) (te := tCB (fun xs H Q => ∃ p ys, xs = [.ref p] ∧ ((SqL K H p ys ∧ ∀ l, H l = none → Q (.ref l) (upd H l (.tup ys))) ∨ (SqT K H p ys ∧ Q (.ref p) H))) (tCons (tLc (iRng1 (tCons (tVar 3) tNil)) (gName 4) tYes (tOp (rIxL K) (tLst (tCons (tC (.int 0)) (tCons (tC (.int 1)) (tCons (tC (.int 2)) (tCons (tC (.int 4)) (tCons (tC (.int 5)) tNil)))))) (tCall spLRoll [] E0 (tCons (tVar 1) (tCons (tC (.int 5)) tNil)))) [4]) tNil)) rfl scLaw.nd (pi_range1 (by rfl) mr (pa_cons (pv 2) pa_nil)) (blkOk_by (N := lawN) (sc := defScope sLaw) (by decide +kernel)) (fun _ _ _ _ _ => pg_name (i := 19) scLaw.nd rfl (Or.inl rfl)) (fun _ _ _ _ _ => pts_nil)
      (fun _ _ _ _ _ => pe_callTy call_tuple_of (by rfl) mt (by decide +kernel) (pa_cons (pe_lc (own := [("_law_k", 4)]) (g := gName 4) (tt := tYes) rfl scLaw.nd (pi_range1 (by rfl) mr (pa_cons (pv 3) pa_nil)) (blkOk_by (N := lawN) (by kernel_rfl)) (fun _ _ _ _ _ => pg_name (i := 4) scLaw.nd rfl (Or.inl rfl)) (fun _ _ _ _ _ => pts_nil)
        (fun _ _ _ _ _ => pe_ix ix_list (pe_lst (pa_cons pe_int (pa_cons pe_int (pa_cons pe_int (pa_cons pe_int (pa_cons pe_int pa_nil)))))) (pe_call GR hr (by rfl) gR FR.kp bR .nil pass0 (pa_cons (pv 1) (pa_cons pe_int pa_nil))) (fun _ _ => rfl))) pa_nil))), fun D σ H ⟨c5, es, x0, t0, dc⟩ hn' => ?_⟩
  subst es
  have hnn : ((n : Nat) : Int).toNat = n := Int.toNat_natCast n
  have hmm : ((m : Nat) : Int).toNat = m := Int.toNat_natCast m
  refine ⟨.int (n : Nat), rfl, (n : Nat), rfl, by omega, by omega, fun DD hD => ?_⟩
  have nDd := dc.ne hD
  rw [hnn]
  refine lc_range (lo := 0) (n := n) (fun i H2 => ∃ ys Rs, Ext H0 H2 ∧ Tabs T H2 ∧ DiceAt H2 d ∧ H2 DD = some (.lst ys) ∧ TupsI K H2 ys Rs ∧ Rs.length = i ∧ (∀ r ∈ Rs, r.length = m ∧ ∀ x ∈ r, 0 ≤ x ∧ x ≤ 5))
    ⟨[], [], x0.trans (Ext.new hD), t0.same (Same.new hD), dc.ext (Ext.new hD), upd_same, TupsI.nil, rfl, fun r hr => absurd hr (by simp)⟩ (fun i H2 hi ⟨ys, Rs, x2, t2, dc2, d2, tt2, l2, ok2⟩ => ?_) (fun H2 ⟨ys, Rs, x2, t2, dc2, d2, tt2, l2, ok2⟩ => ?_)
  · obtain ⟨da, db, dcc, hd2⟩ := id dc2
    refine ⟨rfl, .int (m : Nat), rfl, (m : Nat), rfl, by omega, by omega, fun D2 hD2 => ?_⟩
    have nD2d := dc2.ne hD2
    rw [hmm]
    refine lc_range (lo := 0) (n := m) (fun j H3 => ∃ ns : List Int, SameBut d H2 H3 ∧ Tabs T H3 ∧ DiceAt H3 d ∧ H3 D2 = some (.lst (ns.map V.int)) ∧ ns.length = j ∧ (∀ x ∈ ns, 0 ≤ x ∧ x ≤ 5))
      ⟨[], SameBut.of (Same.new hD2), t2.same (Same.new hD2), dc2.ext (Ext.new hD2), upd_same, rfl, fun x hx => absurd hx (by simp)⟩ (fun j H3 hj ⟨ns, s3, t3, dc3, d3, l3, ok3⟩ => ?_) (fun H3 ⟨ns, s3, t3, dc3, d3, l3, ok3⟩ => ?_)
    · refine ⟨rfl, by show 5 ≤ sizeLine; decide, fun pl hpl => ?_⟩
      have npl := dc3.ne hpl
      have sl : Same H3 (upd H3 pl (.lst [.int 0, .int 1, .int 2, .int 4, .int 5])) := Same.new hpl
      refine ⟨.ref d, rfl, d, 5, rfl, dc3.ext (Ext.of sl), by decide, by decide, fun r H4 h4a h4b h4 dc4 => ?_⟩
      have t4 := roll_tabs (t3.same sl) (dc3.ext (Ext.of sl)) dc4 h4
      have p4 : H4 pl = some (.lst [.int 0, .int 1, .int 2, .int 4, .int 5]) := by rw [h4 pl npl, upd_same]
      obtain ⟨rn, rfl⟩ : ∃ rn : Nat, r = (rn : Int) := ⟨r.toNat, by omega⟩
      have hit : ∃ z : Int, ([V.int 0, .int 1, .int 2, .int 4, .int 5])[rn]? = some (.int z) ∧ 0 ≤ z ∧ z ≤ 5 := by
        have : rn = 0 ∨ rn = 1 ∨ rn = 2 ∨ rn = 3 ∨ rn = 4 := by omega
        rcases this with rfl | rfl | rfl | rfl | rfl
        · exact ⟨0, rfl, by decide, by decide⟩
        · exact ⟨1, rfl, by decide, by decide⟩
        · exact ⟨2, rfl, by decide, by decide⟩
        · exact ⟨4, rfl, by decide, by decide⟩
        · exact ⟨5, rfl, by decide, by decide⟩
      obtain ⟨z, ez, hz⟩ := hit
      have s4 : SameBut d H3 H4 := (SameBut.of sl).trans (SameBut.roll h4)
      have d4 := s4 D2 _ nD2d d3
      refine ⟨pl, _, _, _, rfl, rfl, SqL.of p4, atI_nat ez, _, d4, by rw [List.length_map, l3]; exact small1000 (by omega), ns ++ [z], (s3.trans s4).write hD2, t4.lst d4, ?_, ?_, by simp [l3], fun x hx => ?_⟩
      · obtain ⟨u, v, q', e⟩ := dc4
        exact ⟨u, v, q', by rw [upd_ne (Ne.symm nD2d)]; exact e⟩
      · rw [upd_same, List.map_append]
        rfl
      · rcases List.mem_append.mp hx with y | y
        · exact ok3 x y
        · have : x = z := by simpa using y
          rw [this]
          exact hz
    · refine ⟨D2, _, rfl, .inl ⟨SqL.of d3, fun pt hpt => ?_⟩⟩
      have npt := dc3.ne hpt
      have s4 : SameBut d H2 (upd H3 pt (.tup (ns.map V.int))) := s3.trans (SameBut.of (Same.new hpt))
      have d4 := s4 DD _ nDd d2
      refine ⟨ys, d4, small1000 (by rw [tt2.1, l2]; omega), ys ++ [.ref pt], Rs ++ [ns], ?_, (t3.same (Same.new hpt)).lst d4, ?_, upd_same, ?_, by simp [l2], fun r hr' => ?_⟩
      · exact ext_writeF (s4.ext x2 fd) (fr_of x0 hD)
      · obtain ⟨u, v, q', e⟩ := dc3.ext (Ext.new (o := .tup (ns.map V.int)) hpt)
        exact ⟨u, v, q', by rw [upd_ne (Ne.symm nDd)]; exact e⟩
      · exact ((s4.tups hd2 tt2).snoc ⟨pt, rfl, SqT.of upd_same⟩).updL d4
      · rcases List.mem_append.mp hr' with y | y
        · exact ok2 r y
        · have : r = ns := by simpa using y
          rw [this]
          exact ⟨l3, ok3⟩
  · exact hn' _ _ ⟨DD, Rs, ⟨l2, ok2⟩, rfl, x2, t2, dc2, nDd, ys, d2, tt2⟩
end
end PM
namespace PM
open PySem PySem.Spec PyProof.Rows L2 GenW
theorem nat_filter (n : Nat) (r : Nat) : (List.range n).filterMap (fun i => if i % 2 = r then some (i : Int) else none) = ((List.range n).filter (fun k => k % 2 == r)).map fun k : Nat => (k : Int) := by
  induction List.range n with
  | nil => rfl
  | cons a l ih =>
    rw [List.filterMap_cons, List.filter_cons]
    by_cases h : a % 2 = r
    · simp [h, ih]
    · simp [h, ih]
section
variable {P : Program} {w : World} {K : PySem.W.Frag} {mg : Str → Option Value} {base : Heap} {f : Addr} {cdv : Value} {A : Around} {outer : List Env} {s : Shared} {H0 Hb : Hp} {E : XK} {T : List (Addr × Str)}
theorem asg_op {ta tb : TE} {r : R2} {g : TG} {D : Ends} {σ : L2.St} {H : Hp} (h : ta σ H fun x H1 => tb σ H1 fun y H2 => r x y H2 fun v H3 => g v σ H3 D.nx) : tAsg (tOp r ta tb) g D σ H := h
theorem part_k {T : List (Addr × Str)} {n r : Nat} (hn : n ≤ 3) (rz : Int) (er : rz = (r : Nat)) {H : Hp} {Q : VK} {sc d m k4 c5 o6 l7 t8 d9 h10 s11 o12 p13 t14 l15 d16 b17 : Option V} (t0 : Tabs T H)
    (q : ∀ (D1 : Addr) (H2 : Hp), H D1 = none → Ext H H2 → Tabs T H2 → H2 D1 = some (.lst (natV ((List.range n).filter (fun k => k % 2 == r)))) → Q (.ref D1) H2) :
    tLc (iRng1 (tCons (tVar 2) tNil)) (gName 4) (tTest (tOp rEq (tOp (rI (fun _ j => j ≠ 0) fun i j => .int (i.fmod j)) (tVar 4) (tC (.int 2))) (tC (.int rz)))) (tVar 4) [4] (lS sc d (some (.int (n : Nat))) m k4 c5 o6 l7 t8 d9 h10 s11 o12 p13 t14 l15 d16 b17) H Q := by
  have hnn : ((n : Nat) : Int).toNat = n := Int.toNat_natCast n
  refine ⟨.int (n : Nat), rfl, (n : Nat), rfl, by omega, by omega, fun D1 hD1 => ?_⟩
  rw [hnn]
  refine lc_gen (T := T) walk_range IntR.st (fun i => if i % 2 = r then some (i : Int) else none) (by omega) t0 hD1 (fun _ _ => trivial) (fun i x H2 H' acc Qt Qf hi x2 t2 d2 y hq hf => ?_) (fun H2 ys x2 t2 d2 r2 => ?_)
  · obtain ⟨rfl, rfl⟩ := y
    have e : ((0 : Int) + (i : Nat)).fmod 2 = ((i % 2 : Nat) : Int) := by
      rw [Int.fmod_eq_emod_of_nonneg _ (by decide)]
      omega
    refine ⟨rfl, _, rfl, _, _, rfl, rfl, (show (2 : Int) ≠ 0 by decide), ⟨rfl, ?_⟩⟩
    refine ⟨_, rfl, ?_⟩
    refine ite2 (fun h => ?_) (fun h => ?_)
    · have h : V.int (((0 : Int) + (i : Nat)).fmod 2) = V.int rz := of_decide_eq_true h
      rw [e, er] at h
      refine ⟨_, rfl, hq _ _ (i : Int) ?_ (Ext.refl _) t2 ?_⟩
      · rw [if_pos]
        injection h with h
        omega
      · show V.int _ = V.int _
        rw [Int.zero_add]
    · refine hf _ ?_ (Ext.refl _) t2
      rw [if_neg]
      intro z
      apply h
      refine decide_eq_true ?_
      show V.int (((0 : Int) + (i : Nat)).fmod 2) = V.int rz
      rw [e, er, z]
  · have eys := rels_ints r2
    rw [nat_filter] at eys
    subst eys
    refine q D1 H2 hD1 x2 t2 ?_
    rw [d2, List.map_map]
    rfl
theorem step2 (mr : mg "range" = none) {d ra : Addr} {n m : Nat} (hn : n ≤ 3) (hm : m ≤ 5) {R : List (List Int)} {sc k4 o6 l7 t8 d9 h10 s11 o12 p13 t14 l15 d16 b17 : Option V} :
    Step (lX P w K mg base f cdv A outer s Hb E) (lawB 2) (fun σ H => σ = lS sc (some (.ref d)) (some (.int (n : Nat))) (some (.int (m : Nat))) k4 (some (.ref ra)) o6 l7 t8 d9 h10 s11 o12 p13 t14 l15 d16 b17 ∧ Ext H0 H ∧ Tabs T H ∧ DiceAt H d ∧ ra ≠ d ∧ LofH K H ra R)
      (fun σ H => ∃ ob : Addr, σ = lS sc (some (.ref d)) (some (.int (n : Nat))) (some (.int (m : Nat))) k4 (some (.ref ra)) (some (.ref ob)) l7 t8 d9 h10 s11 o12 p13 t14 l15 d16 b17 ∧ LB K T H0 ra ob R (lawOrder n) H ∧ DiceAt H d ∧ ra ≠ d ∧ ob ≠ d) := by

  refine ⟨_, ps_set (i := 6) scLaw.nd rfl (Or.inl rfl) (pe_op op_cat
    (pe_lc (own := [("_law_k", 4)]) (g := gName 4) (tt := tTest (tOp rEq (tOp (rI (fun _ j => j ≠ 0) fun i j => .int (i.fmod j)) (tVar 4) (tC (.int 2))) (tC (.int 1)))) (te := tVar 4) rfl scLaw.nd (pi_range1 (by rfl) mr (pa_cons (pv 2) pa_nil)) (blkOk_by (N := lawN) (sc := defScope sLaw) (by decide +kernel)) (fun _ _ _ _ _ => pg_name (i := 4) scLaw.nd rfl (Or.inl rfl)) (fun _ _ _ _ _ => pts_one (pt_cmpR op_eq (pe_op op_modN (pv 4) pe_int) pe_int (nomark _))) (fun _ _ _ _ _ => pv 4))
    (pe_lc (own := [("_law_k", 4)]) (g := gName 4) (tt := tTest (tOp rEq (tOp (rI (fun _ j => j ≠ 0) fun i j => .int (i.fmod j)) (tVar 4) (tC (.int 2))) (tC (.int 0)))) (te := tVar 4) rfl scLaw.nd (pi_range1 (by rfl) mr (pa_cons (pv 2) pa_nil)) (blkOk_by (N := lawN) (sc := defScope sLaw) (by decide +kernel)) (fun _ _ _ _ _ => pg_name (i := 4) scLaw.nd rfl (Or.inl rfl)) (fun _ _ _ _ _ => pts_one (pt_cmpR op_eq (pe_op op_modN (pv 4) pe_int) pe_int (nomark _))) (fun _ _ _ _ _ => pv 4))), fun D σ H ⟨es, x0, t0, dc, nrd, hR⟩ hn' => ?_⟩
  subst es
  refine asg_op ?_
  refine part_k (r := 1) hn 1 rfl t0 fun D1 H1 n1 x1 t1 d1 => ?_
  refine part_k (r := 0) hn 0 rfl t1 fun D2 H2 n2 x2 t2 d2 => ?_
  refine ⟨_, _, _, _, rfl, rfl, x2.lst d1, d2, ?_, fun ob hob => ?_⟩
  · have l1 := List.length_filter_le (fun k => k % 2 == 1) (List.range n)
    have l2 := List.length_filter_le (fun k => k % 2 == 0) (List.range n)
    have e0 : (List.range n).length = n := List.length_range
    have : (natV ((List.range n).filter (fun k => k % 2 == 1))).length + (natV ((List.range n).filter (fun k => k % 2 == 0))).length ≤ 6 := by
      simp only [natV, List.length_map]
      omega
    exact Nat.le_trans this (by decide)
  have x3 : Ext H (upd H2 ob (.lst (natV ((List.range n).filter (fun k => k % 2 == 1)) ++ natV ((List.range n).filter (fun k => k % 2 == 0))))) := (x1.trans x2).trans (Ext.new hob)
  refine hn' _ _ ⟨ob, rfl, ⟨x0.trans x3, t2.same (Same.new hob), hR.ext x3, ?_⟩, dc.ext x3, nrd, ?_⟩
  · rw [upd_same]
    unfold lawOrder natV
    rw [List.map_append]
  · exact (dc.ext (x1.trans x2)).ne hob
end
end PM
namespace PM
open PySem PySem.Spec PyProof.Rows L2 GenW
/-- a list of lists of whole numbers, no two the same -/
structure Lots (H0 H : Hp) (D : Addr) (ps : List Addr) (L : List (List Int)) : Prop where
  lst : H D = some (.lst (ps.map V.ref))
  nd : (D :: ps).Nodup
  len : ps.length = L.length
  each : ∀ (i : Nat) (p : Addr) (l : List Int), ps[i]? = some p → L[i]? = some l → H p = some (.lst (l.map V.int))
  fr : ∀ p ∈ D :: ps, Fr H0 p
theorem Lots.ext {H0 H H' : Hp} {D : Addr} {ps : List Addr} {L : List (List Int)} (h : Lots H0 H D ps L) (e : Ext H H') : Lots H0 H' D ps L :=
  ⟨e.lst h.lst, h.nd, h.len, fun i p l a b => e.lst (h.each i p l a b), h.fr⟩
theorem Lots.but {H0 H H' : Hp} {D d : Addr} {ps : List Addr} {L : List (List Int)} (h : Lots H0 H D ps L) (e : SameBut d H H') (n : d ∉ D :: ps) : Lots H0 H' D ps L :=
  ⟨e _ _ (fun z => n (by rw [← z]; exact List.mem_cons_self)) h.lst, h.nd, h.len, fun i p l a b => e _ _ (fun z => n (by rw [← z]; exact List.mem_cons_of_mem _ (List.mem_of_getElem? a))) (h.each i p l a b), h.fr⟩
theorem Lots.put {H0 H : Hp} {D p : Addr} {ps : List Addr} {L : List (List Int)} {i : Nat} {ns : List Int} (h : Lots H0 H D ps L) (hp : ps[i]? = some p) : Lots H0 (upd H p (.lst (ns.map V.int))) D ps (L.set i ns) := by
  have hm := List.mem_of_getElem? hp
  have hnd := List.nodup_cons.mp h.nd
  have hi := (List.getElem?_eq_some_iff.mp hp).1
  refine ⟨by rw [upd_ne (fun z => hnd.1 (by rw [z]; exact hm))]; exact h.lst, h.nd, by rw [List.length_set]; exact h.len, fun j q l a b => ?_, h.fr⟩
  by_cases e : j = i
  · subst e
    rw [hp] at a
    obtain rfl := Option.some.inj a
    rw [List.getElem?_set_self (by rw [← h.len]; exact hi)] at b
    obtain rfl := Option.some.inj b
    exact upd_same
  · rw [List.getElem?_set_ne (Ne.symm e)] at b
    have : q ≠ p := fun z => e (nd_ix hnd.2 a (by rw [z]; exact hp))
    rw [upd_ne this]
    exact h.each j q l a b
theorem SameBut.upd1 {H : Hp} {p : Addr} {o : HO} : SameBut p H (upd H p o) := fun b u n h => by rw [upd_ne n]; exact h
theorem SameBut.lofH {K : PySem.W.Frag} {H H' : Hp} {d a : Addr} {ys : List V} {R : List (List Int)} (e : SameBut d H H') (hd : H d = some (.lst ys)) (n : a ≠ d) (h : LofH K H a R) : LofH K H' a R := by
  obtain ⟨vs, h1, h2⟩ := h
  exact ⟨vs, e _ _ n h1, e.tups hd h2⟩
theorem Fr.not_lst {H : Hp} {a : Addr} {xs : List V} (f : Fr H a) (h : H a = some (.lst xs)) : False := by
  obtain ⟨ps, e⟩ := f _ h
  cases e
theorem LB.but {K : PySem.W.Frag} {T : List (Addr × Str)} {H0 H H' : Hp} {ra ob d : Addr} {R : List (List Int)} {order : List Nat} {ys : List V} (h : LB K T H0 ra ob R order H) (e : SameBut d H H') (hd : H d = some (.lst ys)) (f : Fr H0 d) (t : Tabs T H') (n1 : ra ≠ d) (n2 : ob ≠ d) : LB K T H0 ra ob R order H' :=
  ⟨e.ext h.ext f, t, e.lofH hd n1 h.rows, e _ _ n2 h.ord⟩
section
variable {P : Program} {w : World} {K : PySem.W.Frag} {mg : Str → Option Value} {base : Heap} {f : Addr} {cdv : Value} {A : Around} {outer : List Env} {s : Shared} {H0 Hb : Hp} {E : XK} {T : List (Addr × Str)}
theorem step4 (mr : mg "range" = none) {d ra ob : Addr} {n : Nat} (hn : n ≤ 3) {R : List (List Int)} {order : List Nat} {sc m k4 t8 h10 s11 o12 p13 t14 l15 d16 b17 : Option V} :
    Step (lX P w K mg base f cdv A outer s Hb E) (lawB 4) (fun σ H => ∃ l7 d9, σ = lS sc (some (.ref d)) (some (.int (n : Nat))) m k4 (some (.ref ra)) (some (.ref ob)) l7 t8 d9 h10 s11 o12 p13 t14 l15 d16 b17 ∧ LB K T H0 ra ob R order H ∧ DiceAt H d ∧ ra ≠ d ∧ ob ≠ d)
      (fun σ H => ∃ (l7 : Option V) (dl : Addr) (ps : List Addr), σ = lS sc (some (.ref d)) (some (.int (n : Nat))) m k4 (some (.ref ra)) (some (.ref ob)) l7 t8 (some (.ref dl)) h10 s11 o12 p13 t14 l15 d16 b17 ∧ LB K T H0 ra ob R order H ∧ DiceAt H d ∧ ra ≠ d ∧ ob ≠ d ∧ Lots H0 H dl ps (List.replicate n []) ∧ d ∉ dl :: ps ∧ ra ∉ dl :: ps ∧ ob ∉ dl :: ps) := by
  refine ⟨_, ps_setLc (i := 9) (own := [("_law_k", 4)]) (g := gName 4) (tt := tYes) (te := tLst tNil) rfl scLaw.nd rfl rfl (sw_true rfl rfl rfl (by decide +kernel)) (pi_range1 (by rfl) mr (pa_cons (pv 2) pa_nil)) (blkOk_by (N := lawN) (sc := defScope sLaw) (by decide +kernel)) (fun _ _ _ _ _ => pg_name (i := 4) scLaw.nd rfl (Or.inl rfl)) (fun _ _ _ _ _ => pts_nil)
      (fun _ _ _ _ _ => pe_lst pa_nil), fun D σ H ⟨l7, d9, es, lb, dc, nrd, nod⟩ hn' => ?_⟩
  subst es
  have hnn : ((n : Nat) : Int).toNat = n := Int.toNat_natCast n
  refine ⟨.int (n : Nat), rfl, (n : Nat), rfl, by omega, by omega, fun D1 hD1 => ?_⟩
  rw [hnn]
  have fD := fr_of lb.ext hD1
  refine lc_range (lo := 0) (n := n) (fun i H2 => ∃ ps, Ext H H2 ∧ Tabs T H2 ∧ Lots H0 H2 D1 ps (List.replicate i []) ∧ ∀ p ∈ D1 :: ps, Fr H p)
    ⟨[], Ext.new hD1, lb.tabs.same (Same.new hD1), ⟨upd_same, by simp, rfl, fun i p l a => by simp at a, fun p hp => by
      have : p = D1 := by simpa using hp
      rw [this]
      exact fD⟩, fun p hp => by
      have : p = D1 := by simpa using hp
      rw [this]
      exact fr_of (Ext.refl H) hD1⟩ (fun i H2 hi ⟨ps, x2, t2, lo, no⟩ => ?_) (fun H2 ⟨ps, x2, t2, lo, no⟩ => ?_)
  · refine ⟨rfl, Nat.zero_le _, fun p hp => ?_⟩
    have x3 : Ext H2 (upd H2 p (.lst [])) := Ext.new hp
    have l3 := x3.lst lo.lst
    have hpD : p ≠ D1 := fun z => by rw [z, lo.lst] at hp; cases hp
    have hpl : ps.length = i := by rw [lo.len, List.length_replicate]
    have hpn : p ∉ ps := fun z => by
      obtain ⟨j, hj⟩ := List.mem_iff_getElem?.mp z
      have hjl := (List.getElem?_eq_some_iff.mp hj).1
      have := lo.each j p [] hj (by rw [List.getElem?_replicate]; rw [if_pos (by omega)])
      rw [hp] at this
      cases this
    have hnd := List.nodup_cons.mp lo.nd
    refine ⟨ps.map V.ref, l3, by rw [List.length_map, hpl]; exact small1000 (by omega), ps ++ [p], ?_, (t2.same (Same.new hp)).lst l3, ⟨by rw [upd_same, List.map_append]; rfl, ?_, by simp [hpl], fun j q l a b => ?_, ?_⟩, ?_⟩
    · exact ext_writeF (x2.trans x3) fun o e => by rw [hD1] at e; cases e
    · refine List.nodup_cons.mpr ⟨fun z => ?_, ?_⟩
      · rcases List.mem_append.mp z with z | z
        · exact hnd.1 z
        · have : D1 = p := by simpa using z
          exact hpD this.symm
      · rw [List.nodup_append]
        refine ⟨hnd.2, by simp, fun a ha b hb => ?_⟩
        have : b = p := by simpa using hb
        rw [this]
        intro z
        exact hpn (by rw [← z]; exact ha)
    · have bl : l = [] := by
        rw [List.getElem?_replicate] at b
        split at b
        · exact (Option.some.inj b).symm
        · cases b
      subst bl
      by_cases hj : j < ps.length
      · rw [List.getElem?_append_left hj] at a
        have e := lo.each j q [] a (by rw [List.getElem?_replicate]; rw [if_pos (by omega)])
        rw [upd_ne (fun z => hnd.1 (by rw [← z]; exact List.mem_of_getElem? a))]
        exact x3.lst e
      · have hl : j < (ps ++ [p]).length := (List.getElem?_eq_some_iff.mp a).1
        have e : j = ps.length := by simp at hl; omega
        rw [e, List.getElem?_concat_length] at a
        obtain rfl := Option.some.inj a
        rw [upd_ne hpD, upd_same]
        rfl
    · intro q hq
      rcases List.mem_cons.mp hq with rfl | hq
      · exact fD
      · rcases List.mem_append.mp hq with hq | hq
        · exact lo.fr _ (List.mem_cons_of_mem _ hq)
        · have : q = p := by simpa using hq
          rw [this]
          exact fr_of (lb.ext.trans x2) hp
    · intro q hq
      rcases List.mem_cons.mp hq with rfl | hq
      · exact fr_of (Ext.refl H) hD1
      · rcases List.mem_append.mp hq with hq | hq
        · exact no _ (List.mem_cons_of_mem _ hq)
        · have : q = p := by simpa using hq
          rw [this]
          exact fr_of x2 hp
  · refine hn' _ _ ⟨_, D1, ps, rfl, lb.go x2 t2, dc.ext x2, nrd, nod, lo, fun z => ?_, fun z => ?_, fun z => ?_⟩
    · obtain ⟨_, _, _, e⟩ := dc
      exact (no _ z).not_lst e
    · obtain ⟨_, e, _⟩ := lb.rows
      exact (no _ z).not_lst e
    · exact (no _ z).not_lst lb.ord
theorem step5 {fR : Addr} {dR : FuncData} {k : Nat} (hr : Room (k + 1) (A.deeper (envOfC "law" (defScope sLaw) s.heap.objs.size f cdv))) (mr : mg "range" = none) (FR : Fun K "_law_roll" "_law_roll" sLRoll fR dR) (bR : Binds K dR ["_law_dice_here", "_law_many"] []) (gR : mg "_law_roll" = some (.ref fR)) (GR : FnOk P w K mg base CX0 (k + 1) fR dR ["_law_dice_here", "_law_many"] spLRoll)
    {d ra ob : Addr} (fd : Fr H0 d) {n m : Nat} (h0 : 0 < n) (hn : n ≤ 3) (hm : m ≤ 5) {R : List (List Int)} {order : List Nat} {sc k4 h10 s11 o12 p13 t14 l15 d16 b17 : Option V} :
    Step (lX P w K mg base f cdv A outer s Hb E) (lawB 5) (fun σ H => ∃ (l7 t8 : Option V) (dl : Addr) (ps : List Addr), σ = lS sc (some (.ref d)) (some (.int (n : Nat))) (some (.int (m : Nat))) k4 (some (.ref ra)) (some (.ref ob)) l7 t8 (some (.ref dl)) h10 s11 o12 p13 t14 l15 d16 b17 ∧ LB K T H0 ra ob R order H ∧ DiceAt H d ∧ ra ≠ d ∧ ob ≠ d ∧ Lots H0 H dl ps (List.replicate n []) ∧ d ∉ dl :: ps ∧ ra ∉ dl :: ps ∧ ob ∉ dl :: ps)
      (fun σ H => ∃ (l7 t8 : Option V) (dl : Addr) (ps : List Addr) (L : List (List Int)), σ = lS sc (some (.ref d)) (some (.int (n : Nat))) (some (.int (m : Nat))) k4 (some (.ref ra)) (some (.ref ob)) l7 t8 (some (.ref dl)) h10 s11 o12 p13 t14 l15 d16 b17 ∧ LB K T H0 ra ob R order H ∧ Lots H0 H dl ps L ∧ LotInv L n m) := by
  refine ⟨_, ps_for PassesOwn.never rfl (pi_range1 (by rfl) mr (pa_cons (pv 3) pa_nil)) (pg_name (i := 8) scLaw.nd rfl (.inl rfl))
    (pss_one (ps_expr (pe_bm PySem.F.plainAttrs_list PySem.F.slot_list_append PySem.F.type_list_append mt_append (pe_ix ix_list (pv 9) (pe_call GR hr (by rfl) gR FR.kp bR .nil pass0 (pa_cons (pv 1) (pa_cons (pv 2) pa_nil))) (fun _ _ => rfl)) (pa_cons (pv 8) pa_nil)))), fun D σ H ⟨l7, t8, dl, ps, es, lb, dc, nrd, nod, lo, nd, nr, no⟩ hn' => ?_⟩
  subst es
  have hmm : ((m : Nat) : Int).toNat = m := Int.toNat_natCast m
  refine ⟨.int (m : Nat), rfl, (m : Nat), rfl, by omega, by omega, ?_⟩
  rw [hmm]
  refine for_range (lo := 0) (n := m) (fun i σ H1 => ∃ (t8 : Option V) (L : List (List Int)), σ = lS sc (some (.ref d)) (some (.int (n : Nat))) (some (.int (m : Nat))) k4 (some (.ref ra)) (some (.ref ob)) l7 t8 (some (.ref dl)) h10 s11 o12 p13 t14 l15 d16 b17 ∧ LB K T H0 ra ob R order H1 ∧ DiceAt H1 d ∧ Lots H0 H1 dl ps L ∧ LotInv L n i)
    ⟨t8, _, rfl, lb, dc, lo, LotInv.start n⟩ (fun i σ H1 hi ⟨t8, L, es, lb1, dc1, lo1, inv1⟩ => ?_) (fun σ H1 ⟨t8, L, es, lb1, dc1, lo1, inv1⟩ => hn' _ _ ⟨l7, t8, dl, ps, L, es, lb1, lo1, inv1⟩)
  subst es
  have hpl : ps.length = n := by rw [lo1.len, inv1.len]
  have ndl : dl ≠ d := fun z => nd (by rw [← z]; exact List.mem_cons_self)
  refine ⟨.ref dl, rfl, .ref d, rfl, .int (n : Nat), rfl, d, (n : Nat), rfl, dc1, by omega, by omega, fun r H2 r0 r1 h2 dc2 => ?_⟩
  obtain ⟨j, rfl⟩ : ∃ j : Nat, r = (j : Int) := ⟨r.toNat, by omega⟩
  have hj : j < n := by omega
  have sb : SameBut d H1 H2 := SameBut.roll h2
  obtain ⟨da, db, dcc, hd1⟩ := id dc1
  have t2 := roll_tabs lb1.tabs dc1 dc2 h2
  have lb2 := lb1.but sb hd1 fd t2 nrd nod
  have lo2 := lo1.but sb nd
  have hjp : j < ps.length := by omega
  have hjL : j < L.length := by rw [inv1.len]; exact hj
  have hp : ps[j]? = some ps[j] := List.getElem?_eq_getElem hjp
  have hL : L[j]? = some L[j] := List.getElem?_eq_getElem hjL
  have e2 := lo2.each j _ _ hp hL
  have hlen : L[j].length ≤ i := by
    have h1 := (inv1.one j _ hL)
    exact nodup_ltI h1.1 h1.2
  refine ⟨dl, _, (j : Int), .ref ps[j], rfl, rfl, SqL.of lo2.lst, atI_nat (by rw [List.getElem?_map, hp]; rfl), .inl ⟨rfl, _, SqL.of e2⟩, .int (0 + (i : Nat)), rfl, ps[j], _, _, rfl, rfl, e2, by rw [List.length_map]; exact small1000 (by omega), ?_⟩
  have hpm : ps[j] ∈ dl :: ps := List.mem_cons_of_mem _ (List.getElem_mem hjp)
  have em : L[j].map V.int ++ [V.int (0 + (i : Nat))] = (L[j] ++ [(i : Int)]).map V.int := by
    rw [List.map_append, Int.zero_add]
    rfl
  rw [em]
  refine ⟨_, _, rfl, lb2.but SameBut.upd1 e2 (lo2.fr _ hpm) (t2.lst e2) (fun z => nr (by rw [z]; exact hpm)) (fun z => no (by rw [z]; exact hpm)), ?_, lo2.put hp, inv1.add hL⟩
  obtain ⟨u, v, q', e⟩ := dc2
  exact ⟨u, v, q', by rw [upd_ne (fun z => nd (by rw [z]; exact hpm))]; exact e⟩
theorem TupI.st {K : PySem.W.Frag} : ∀ H H' v x, TupI K H v x → Ext H H' → TupI K H' v x := fun _ _ _ _ h x => h.ext x
theorem step6 (mt : mg "tuple" = none) {d ra ob : Addr} {n m : Nat} (hn : n ≤ 3) (hm : m ≤ 5) {R : List (List Int)} {order : List Nat} {sc k4 h10 s11 o12 p13 t14 l15 d16 b17 : Option V} :
    Step (lX P w K mg base f cdv A outer s Hb E) (lawB 6) (fun σ H => ∃ (l7 t8 : Option V) (dl : Addr) (ps : List Addr) (L : List (List Int)), σ = lS sc (some (.ref d)) (some (.int (n : Nat))) (some (.int (m : Nat))) k4 (some (.ref ra)) (some (.ref ob)) l7 t8 (some (.ref dl)) h10 s11 o12 p13 t14 l15 d16 b17 ∧ LB K T H0 ra ob R order H ∧ Lots H0 H dl ps L ∧ LotInv L n m)
      (fun σ H => ∃ (t8 d9 : Option V) (la : Addr) (L : List (List Int)), σ = lS sc (some (.ref d)) (some (.int (n : Nat))) (some (.int (m : Nat))) k4 (some (.ref ra)) (some (.ref ob)) (some (.ref la)) t8 d9 h10 s11 o12 p13 t14 l15 d16 b17 ∧ LB K T H0 ra ob R order H ∧ LofT K H la L ∧ LotInv L n m) := by
  refine ⟨_, ps_set (i := 7) scLaw.nd rfl (Or.inr rfl) (pe_lc (own := [("_law_lot", 18)]) (g := gName 18) (tt := tYes) (te := tCB (fun xs H Q => ∃ p ys, xs = [.ref p] ∧ ((SqL K H p ys ∧ ∀ l, H l = none → Q (.ref l) (upd H l (.tup ys))) ∨ (SqT K H p ys ∧ Q (.ref p) H))) (tCons (tVar 18) tNil)) rfl scLaw.nd (pi_list (pv 9)) (blkOk_by (N := lawN) (sc := defScope sLaw) (by decide +kernel)) (fun _ _ _ _ _ => pg_name (i := 18) scLaw.nd rfl (Or.inl rfl)) (fun _ _ _ _ _ => pts_nil)
      (fun _ _ _ _ _ => pe_callTy call_tuple_of (by rfl) mt (by decide +kernel) (pa_cons (pv 18) pa_nil))), fun D σ H ⟨l7, t8, dl, ps, L, es, lb, lo, inv⟩ hn' => ?_⟩
  subst es
  have hpl : ps.length = L.length := lo.len
  have wt := walk_list (K := K) (a := dl) (xs := ps.map V.ref)
  rw [List.length_map] at wt
  refine ⟨.ref dl, rfl, dl, rfl, ⟨_, SqL.of lo.lst⟩, fun D1 hD1 => lc_gen (T := T) (Rel := TupI K) wt TupI.st (fun i => some (L.getD i [])) (by rw [hpl, inv.len]; omega) lb.tabs hD1 (fun H1 x1 => SqL.of (x1.lst lo.lst)) (fun i x H1 H' acc Qt Qf hi x1 t1 d1 y hq _ => ?_) (fun H1 ys x1 t1 d1 r1 => ?_)⟩
  · obtain ⟨rfl, hx⟩ := y
    have hiL : i < L.length := by omega
    rw [List.getElem?_map, List.getElem?_eq_getElem hi] at hx
    obtain rfl := Option.some.inj hx
    have e := x1.lst (lo.each i _ _ (List.getElem?_eq_getElem hi) (List.getElem?_eq_getElem hiL))
    refine ⟨rfl, .ref ps[i], rfl, ps[i], _, rfl, .inl ⟨SqL.of e, fun l hl => hq _ _ _ rfl (Ext.new hl) (t1.same (Same.new hl)) ⟨l, rfl, SqT.of ?_⟩⟩⟩
    rw [getD_at hiL]
    exact del_new d1 hl upd_same
  · rw [filterMap_some, hpl] at r1
    have e : (List.range L.length).map (fun i => L.getD i []) = L := by
      apply List.ext_getElem
      · simp
      · intro i h1 h2
        simp [h2]
    rw [e] at r1
    exact hn' _ _ ⟨t8, _, D1, L, rfl, lb.go x1 t1, ⟨ys, SqL.of d1, TupsI.ext r1 del_sub⟩, inv⟩
end
end PM
namespace PM
open PySem PySem.Spec PyProof.Rows L2 GenW
theorem Rels.cons {α : Type} {Rel : Hp → V → α → Prop} {H : Hp} {y : V} {a : α} {ys : List V} {as : List α} : Rels Rel H (y :: ys) (a :: as) ↔ Rel H y a ∧ Rels Rel H ys as := by
  constructor
  · intro h
    exact ⟨h.2 0 y a rfl rfl, by simpa using h.1, fun i y' a' p q => h.2 (i + 1) y' a' p q⟩
  · intro ⟨h1, h2⟩
    refine ⟨by simp [h2.1], fun i y' a' p q => ?_⟩
    cases i with
    | zero =>
      obtain rfl := Option.some.inj p
      obtain rfl := Option.some.inj q
      exact h1
    | succ i => exact h2.2 i y' a' p q
theorem Rels.app {α : Type} {Rel : Hp → V → α → Prop} {H : Hp} : ∀ {xs : List V} {as : List α} {ys : List V} {bs : List α}, Rels Rel H xs as → Rels Rel H ys bs → Rels Rel H (xs ++ ys) (as ++ bs)
  | [], [], _, _, _, h => h
  | [], a :: as, _, _, h, _ => by have := h.1; simp at this
  | x :: xs, [], _, _, h, _ => by have := h.1; simp at this
  | x :: xs, a :: as, _, _, h, g => by
    obtain ⟨h1, h2⟩ := Rels.cons.mp h
    exact Rels.cons.mpr ⟨h1, Rels.app h2 g⟩
/-- a list by itself, its items so -/
def LRel {α : Type} (Rel : Hp → V → α → Prop) : Hp → V → List α → Prop := fun H v as => ∃ p vs, v = .ref p ∧ H p = some (.lst vs) ∧ Rels Rel H vs as
theorem LRel.st {α : Type} {Rel : Hp → V → α → Prop} (st : ∀ H H' v x, Rel H v x → Ext H H' → Rel H' v x) : ∀ H H' v x, LRel Rel H v x → Ext H H' → LRel Rel H' v x :=
  fun _ _ _ _ ⟨p, vs, e, h, r⟩ x => ⟨p, vs, e, x.lst h, r.ext st x⟩
theorem rels_flat {α : Type} {Rel : Hp → V → α → Prop} {H : Hp} : ∀ {ys : List V} {ass : List (List α)}, Rels (LRel Rel) H ys ass → ∃ xss, Rels LstV H ys xss ∧ Rels Rel H xss.flatten ass.flatten
  | [], [], _ => ⟨[], Rels.nil, Rels.nil⟩
  | [], a :: as, h => by have := h.1; simp at this
  | y :: ys, [], h => by have := h.1; simp at this
  | y :: ys, as :: ass, h => by
    obtain ⟨⟨p, vs, e, hp, r⟩, h2⟩ := Rels.cons.mp h
    obtain ⟨xss, g1, g2⟩ := rels_flat h2
    exact ⟨vs :: xss, Rels.cons.mpr ⟨⟨p, e, hp⟩, g1⟩, by
      rw [List.flatten_cons, List.flatten_cons]
      exact r.app g2⟩
theorem TupI.del {K : PySem.W.Frag} {H : Hp} {D : Addr} {v : V} {r : List Int} {acc : List V} (h : TupI K H v r) (hD : H D = some (.lst acc)) : TupI K (del H D) v r := by
  obtain ⟨p, e, h⟩ := h
  refine ⟨p, e, ?_⟩
  rcases h with (h | ⟨o, h⟩) | h
  · exact .inl (.inl (by rw [del_ne (fun z => by rw [z, hD] at h; cases h)]; exact h))
  · exact .inl (.inr ⟨o, by rw [del_ne (fun z => by rw [z, hD] at h; cases h)]; exact h⟩)
  · exact .inr h
theorem tupsI_del {K : PySem.W.Frag} {H : Hp} {D : Addr} {vs : List V} {R : List (List Int)} {acc : List V} (h : TupsI K H vs R) (hD : H D = some (.lst acc)) : TupsI K (PM.del H D) vs R :=
  ⟨h.1, fun i v r a b => (h.2 i v r a b).del hD⟩
/-- who is hurt by whom -/
def hurtC (R L : List (List Int)) (n j k : Nat) : Option (List Int) := if W (R.getD j []) (L.getD j []) < W (R.getD j []) (L.getD k []) then some [(j : Int), (k : Int)] else none
def hurtL (R L : List (List Int)) (n : Nat) : List (List Int) := ((List.range n).map fun j => (List.range n).filterMap (hurtC R L n j)).flatten
theorem flat_le {β : Type} : ∀ (l : List (List β)) (b : Nat), (∀ x ∈ l, x.length ≤ b) → l.flatten.length ≤ l.length * b
  | [], b, _ => by simp
  | x :: l, b, h => by
    have h1 := h x List.mem_cons_self
    have h2 := flat_le l b fun y hy => h y (List.mem_cons_of_mem _ hy)
    rw [List.flatten_cons, List.length_append, List.length_cons, Nat.add_mul, Nat.one_mul]
    omega
theorem hurt_len {R L : List (List Int)} {n : Nat} : (hurtL R L n).length ≤ n * n := by
  have := flat_le ((List.range n).map fun j => (List.range n).filterMap (hurtC R L n j)) n fun x hx => by
    obtain ⟨j, _, rfl⟩ := List.mem_map.mp hx
    have := List.length_filterMap_le (hurtC R L n j) (List.range n)
    rw [List.length_range] at this
    exact this
  rw [List.length_map, List.length_range] at this
  exact this
theorem hurt_mem {R L : List (List Int)} {n : Nat} : hurtL R L n = [] ↔ ∀ j < n, ∀ k < n, ¬ W (R.getD j []) (L.getD j []) < W (R.getD j []) (L.getD k []) := by
  unfold hurtL
  rw [List.flatten_eq_nil_iff]
  constructor
  · intro h j hj k hk hw
    have := h _ (List.mem_map.mpr ⟨j, List.mem_range.mpr hj, rfl⟩)
    rw [List.filterMap_eq_nil_iff] at this
    have := this k (List.mem_range.mpr hk)
    unfold hurtC at this
    rw [if_pos hw] at this
    cases this
  · intro h l hl
    obtain ⟨j, hj, rfl⟩ := List.mem_map.mp hl
    rw [List.filterMap_eq_nil_iff]
    intro k hk
    exact if_neg (h j (List.mem_range.mp hj) k (List.mem_range.mp hk))
theorem hurt_calm {R L : List (List Int)} {n : Nat} (hR : R.length = n) : calm R L = decide (hurtL R L n = []) := by
  rw [Bool.eq_iff_iff, decide_eq_true_iff, hurt_mem]
  unfold calm pairsN
  rw [hR, Bool.not_eq_true', List.any_eq_false]
  constructor
  · intro h j hj k hk hw
    refine h (j, k) (List.mem_flatMap.mpr ⟨j, List.mem_range.mpr hj, List.mem_map.mpr ⟨k, List.mem_range.mpr hk, rfl⟩⟩) ?_
    exact decide_eq_true hw
  · intro h p hp he
    obtain ⟨j, hj, hp⟩ := List.mem_flatMap.mp hp
    obtain ⟨k, hk, rfl⟩ := List.mem_map.mp hp
    exact h j (List.mem_range.mp hj) k (List.mem_range.mp hk) (of_decide_eq_true he)
abbrev tHurt (K : PySem.W.Frag) (tt : TT) : TE := tCall (spLFlat K) [] E0 (tCons (tLc (iRng1 (tCons (tVar 2) tNil)) (gName 19) tYes (tLc (iRng1 (tCons (tVar 2) tNil)) (gName 4) tt (tTup (tCons (tVar 19) (tCons (tVar 4) tNil))) [4]) [19]) tNil)
/-- the law's list of the hurt, whatever way the test goes -/
theorem hurt_of {K : PySem.W.Frag} {T : List (Addr × Str)} {R L : List (List Int)} {n : Nat} (hn : n ≤ 3) {tt : TT} {H : Hp} {Q : VK} {sc d m k4 c5 o6 l7 t8 d9 h10 s11 o12 p13 t14 l15 d16 b17 : Option V} (t0 : Tabs T H)
    (ht : ∀ (j k : Nat) (H1 : Hp) (Qt : Bool → Hp → Prop), j < n → k < n → Ext H H1 → Tabs T H1 → (∀ H2, Ext H1 H2 → Tabs T H2 → Qt (decide (W (R.getD j []) (L.getD j []) < W (R.getD j []) (L.getD k []))) H2) →
      tt [sc, d, some (.int (n : Nat)), m, some (.int (0 + (k : Nat))), c5, o6, l7, t8, d9, h10, s11, o12, p13, t14, l15, d16, b17, none, some (.int (0 + (j : Nat))), none, none] H1 Qt)
    (q : ∀ (p : Addr) (vs : List V) (H' : Hp), Fr H p → Ext H H' → Tabs T H' → H' p = some (.lst vs) → TupsI K H' vs (hurtL R L n) → Q (.ref p) H') :
    tHurt K tt (lS sc d (some (.int (n : Nat))) m k4 c5 o6 l7 t8 d9 h10 s11 o12 p13 t14 l15 d16 b17) H Q := by
  have hnn : ((n : Nat) : Int).toNat = n := Int.toNat_natCast n
  refine ⟨.int (n : Nat), rfl, (n : Nat), rfl, by omega, by omega, fun D1 hD1 => ?_⟩
  rw [hnn]
  refine lc_gen (T := T) (Rel := LRel (TupI K)) walk_range (LRel.st TupI.st) (fun j => some ((List.range n).filterMap (hurtC R L n j))) (by omega) t0 hD1 (fun _ _ => trivial) (fun j x H1 H' acc Qt Qf hj x1 t1 d1 y hq _ => ?_) (fun H1 ys x1 t1 d1 r1 => ?_)
  · obtain ⟨rfl, rfl⟩ := y
    refine ⟨rfl, .int (n : Nat), rfl, (n : Nat), rfl, by omega, by omega, fun D2 hD2 => ?_⟩
    rw [hnn]
    refine lc_gen (T := T) (Rel := TupI K) walk_range TupI.st (hurtC R L n j) (by omega) t1 hD2 (fun _ _ => trivial) (fun k x H2 H3' acc2 Qt2 Qf2 hk x2 t2 d2 y hq2 hf2 => ?_) (fun H2 ys x2 t2 d2 r2 => ?_)
    · obtain ⟨rfl, rfl⟩ := y
      refine ⟨rfl, ht j k _ _ hj hk (x1.trans x2) t2 fun H3 x3 t3 => ?_⟩
      show if _ then _ else _
      refine ite2 (fun h => ?_) (fun h => ?_)
      · have h := of_decide_eq_true h
        refine ⟨_, rfl, _, rfl, by show 2 ≤ sizeLine; decide, fun p hp => ?_⟩
        refine hq2 _ _ [(j : Int), (k : Int)] (if_pos h) (x3.trans (Ext.new hp)) (t3.same (Same.new hp)) ⟨p, rfl, SqT.of ?_⟩
        rw [del_new (x3.lst d2) hp upd_same]
        show some (HO.tup [V.int (0 + (j : Nat)), V.int (0 + (k : Nat))]) = _
        rw [Int.zero_add, Int.zero_add]
        rfl
      · exact hf2 _ (if_neg fun z => h (decide_eq_true z)) x3 t3
    · exact hq _ _ _ rfl x2 t2 ⟨D2, ys, rfl, del_new d1 hD2 d2, tupsI_del (TupsI.ext r2 del_sub) (x2.lst d1)⟩
  · rw [filterMap_some] at r1
    obtain ⟨xss, g1, g2⟩ := rels_flat (r1.ext (LRel.st TupI.st) del_sub)
    have hl : xss.flatten.length ≤ 100000 := by
      rw [g2.1]
      have := hurt_len (R := R) (L := L) (n := n)
      have : n * n ≤ 3 * 3 := Nat.mul_le_mul hn hn
      unfold hurtL at *
      omega
    exact ⟨D1, ys, xss, rfl, SqL.of d1, g1, hl, fun H' p np sm hp => q p _ H' (fr_of x1 np) (x1.trans (Ext.of sm)) (t1.same sm) hp (g2.ext TupI.st (Ext.of sm))⟩
end PM
namespace PM
open PySem PySem.Spec PyProof.Rows L2 GenW
theorem ix_lof {K : PySem.W.Frag} {H : Hp} {Q : VK} {a : Addr} {R : List (List Int)} {j : Nat} {z : Int} (h : LofT K H a R) (hj : j < R.length) (ez : z = (j : Nat)) (q : ∀ v, TupI K H v (R.getD j []) → Q v H) : rIxL K (.ref a) (.int z) H Q := by
  subst ez
  obtain ⟨vs, h1, h2⟩ := h
  obtain ⟨v, e, t⟩ := h2.get hj
  rw [← getD_at hj] at t
  exact ⟨a, vs, _, v, rfl, rfl, h1, atI_nat e, q v t⟩
/-- _law_worth(rows[j], lots[k]) -/
theorem lworth_at {K : PySem.W.Frag} {T : List (Addr × Str)} {ti tj tk tl : TE} {σ : L2.St} {H : Hp} {Q : VK} {ra la : Addr} {R L : List (List Int)} {m j k : Nat} {zj zk : Int} (hR : LofT K H ra R) (hL : LofT K H la L) (fit : Fits R L m) (hm : m ≤ 1000) (hll : ∀ l ∈ L, l.length ≤ 1000) (t0 : Tabs T H)
    (hj : j < R.length) (hk : k < R.length) (ej : zj = (j : Nat)) (ek : zk = (k : Nat)) (i5 : ∀ H Q, Q (.ref ra) H → ti σ H Q) (i7 : ∀ H Q, Q (.ref la) H → tk σ H Q) (i1 : ∀ H Q, Q (.int zj) H → tj σ H Q) (i2 : ∀ H Q, Q (.int zk) H → tl σ H Q)
    (q : ∀ H', Ext H H' → Tabs T H' → Q (.int (W (R.getD j []) (L.getD k []))) H') :
    tCall (spLWorth K T) [] E0 (tCons (tOp (rIxL K) ti tj) (tCons (tOp (rIxL K) tk tl) tNil)) σ H Q := by
  have hkL : k < L.length := by rw [fit.len]; exact hk
  refine i5 _ _ (i1 _ _ (ix_lof hR hj ej fun v tv => i7 _ _ (i2 _ _ (ix_lof hL hkL ek fun u tu => ?_))))
  refine ⟨v, u, _, _, rfl, tv, tu, ?_, ?_, t0, q⟩
  · rw [getD_at hj, getD_at hkL]
    exact fit.lot hj hkL
  · rw [getD_at hkL]
    exact hll _ (List.getElem_mem hkL)
section
variable {P : Program} {w : World} {K : PySem.W.Frag} {mg : Str → Option Value} {base : Heap} {f : Addr} {cdv : Value} {A : Around} {outer : List Env} {s : Shared} {H0 Hb : Hp} {E : XK} {T : List (Addr × Str)}
abbrev tHurtW (K : PySem.W.Frag) (T : List (Addr × Str)) : TT := tTest (tOp (rI0 fun i j => .bl (decide (i < j))) (tCall (spLWorth K T) [] E0 (tCons (tOp (rIxL K) (tVar 5) (tVar 19)) (tCons (tOp (rIxL K) (tVar 7) (tVar 19)) tNil))) (tCall (spLWorth K T) [] E0 (tCons (tOp (rIxL K) (tVar 5) (tVar 19)) (tCons (tOp (rIxL K) (tVar 7) (tVar 4)) tNil))))
theorem lots_len {L : List (List Int)} {n m : Nat} (h : LotInv L n m) (hm : m ≤ 5) : ∀ l ∈ L, l.length ≤ 1000 := fun l hl => by
  obtain ⟨j, hj⟩ := List.mem_iff_getElem?.mp hl
  have h1 := h.one j l hj
  have := nodup_ltI h1.1 h1.2
  omega
theorem step7 {lv : Nat} (hr : Room lv (A.deeper (envOfC "law" (defScope sLaw) s.heap.objs.size f cdv))) (mr : mg "range" = none)
    {fF : Addr} {dF : FuncData} (FF : Fun K "_law_flat" "_law_flat" sLFlat fF dF) (bF : Binds K dF ["_law_rows"] []) (gF : mg "_law_flat" = some (.ref fF)) (GF : FnOk P w K mg base CX0 lv fF dF ["_law_rows"] (spLFlat K))
    {fW : Addr} {dW : FuncData} (FW : Fun K "_law_worth" "_law_worth" sLWorth fW dW) (bW : Binds K dW ["_law_row", "_law_lot"] []) (gW : mg "_law_worth" = some (.ref fW)) (GW : FnOk P w K mg base CX0 lv fW dW ["_law_row", "_law_lot"] (spLWorth K T))
    {ra ob : Addr} {n m : Nat} (hn : n ≤ 3) (hm : m ≤ 5) {R : List (List Int)} (ok : RowsOk R n m) {order : List Nat} {sc d k4 s11 o12 p13 t14 l15 d16 b17 : Option V} :
    Step (lX P w K mg base f cdv A outer s Hb E) (lawB 7) (fun σ H => ∃ (t8 d9 h10 : Option V) (la : Addr) (L : List (List Int)), σ = lS sc d (some (.int (n : Nat))) (some (.int (m : Nat))) k4 (some (.ref ra)) (some (.ref ob)) (some (.ref la)) t8 d9 h10 s11 o12 p13 t14 l15 d16 b17 ∧ LB K T H0 ra ob R order H ∧ LofT K H la L ∧ LotInv L n m)
      (fun σ H => ∃ (t8 d9 : Option V) (la hu : Addr) (L : List (List Int)), σ = lS sc d (some (.int (n : Nat))) (some (.int (m : Nat))) k4 (some (.ref ra)) (some (.ref ob)) (some (.ref la)) t8 d9 (some (.ref hu)) s11 o12 p13 t14 l15 d16 b17 ∧ LB K T H0 ra ob R order H ∧ LofT K H la L ∧ LotInv L n m ∧ LofT K H hu (hurtL R L n)) := by
  refine ⟨_, ps_set (i := 10) scLaw.nd rfl (Or.inl rfl) (pe_call GF hr (by rfl) gF FF.kp bF .nil pass0 (pa_cons (pe_lc (own := [("_law_j", 19)]) (g := gName 19) (tt := tYes) (te := tLc (iRng1 (tCons (tVar 2) tNil)) (gName 4) (tHurtW K T) (tTup (tCons (tVar 19) (tCons (tVar 4) tNil))) [4]) rfl scLaw.nd (pi_range1 (by rfl) mr (pa_cons (pv 2) pa_nil)) (blkOk_by (N := lawN) (sc := defScope sLaw) (by decide +kernel)) (fun _ _ _ _ _ => pg_name (i := 19) scLaw.nd rfl (Or.inr rfl)) (fun _ _ _ _ _ => pts_nil)
      (fun _ _ _ _ _ => pe_lc (own := [("_law_k", 4)]) (g := gName 4) (tt := tHurtW K T) (te := tTup (tCons (tVar 19) (tCons (tVar 4) tNil))) rfl scLaw.nd (pi_range1 (by rfl) mr (pa_cons (pv 2) pa_nil)) (blkOk_by (N := lawN) (by kernel_rfl)) (fun _ _ _ _ _ => pg_name (i := 4) scLaw.nd rfl (Or.inl rfl)) (fun _ _ _ _ _ => pts_one (pt_cmpR op_lt (pe_call GW hr (by rfl) gW FW.kp bW .nil pass0 (pa_cons (pe_ix ix_list (pv 5) (pv 19) (fun _ _ => rfl)) (pa_cons (pe_ix ix_list (pv 7) (pv 19) (fun _ _ => rfl)) pa_nil))) (pe_call GW hr (by rfl) gW FW.kp bW .nil pass0 (pa_cons (pe_ix ix_list (pv 5) (pv 19) (fun _ _ => rfl)) (pa_cons (pe_ix ix_list (pv 7) (pv 4) (fun _ _ => rfl)) pa_nil))) (nomark _)))
        (fun _ _ _ _ _ => pe_tup (pa_cons (pv 19) (pa_cons (pv 4) pa_nil))))) pa_nil)), fun D σ H ⟨t8, d9, h10, la, L, es, lb, hL, inv⟩ hn' => ?_⟩
  subst es
  have fit := inv.fits ok (Nat.le_refl m)
  have hR : R.length = n := ok.len
  have ll := lots_len inv hm
  show tHurt K (tHurtW K T) _ _ _
  refine hurt_of (R := R) (L := L) hn lb.tabs (fun j k H1 Qt hj hk x1 t1 hq => ?_) (fun p vs H' fp x1 t1 hp hv => hn' _ _ ⟨t8, d9, la, p, L, rfl, lb.go x1 t1, hL.ext x1, inv, vs, SqL.of hp, hv⟩)
  refine lworth_at (lb.rows.t.ext x1) (hL.ext x1) fit (by omega) ll t1 (by omega) (j := j) (k := j) (by omega) (by omega) (by omega) (fun H Q q => ⟨_, rfl, q⟩) (fun H Q q => ⟨_, rfl, q⟩) (fun H Q q => ⟨_, rfl, q⟩) (fun H Q q => ⟨_, rfl, q⟩) fun H2 x2 t2 => ?_
  refine lworth_at ((lb.rows.t.ext x1).ext x2) ((hL.ext x1).ext x2) fit (by omega) ll t2 (by omega) (j := j) (k := k) (by omega) (by omega) (by omega) (fun H Q q => ⟨_, rfl, q⟩) (fun H Q q => ⟨_, rfl, q⟩) (fun H Q q => ⟨_, rfl, q⟩) (fun H Q q => ⟨_, rfl, q⟩) fun H3 x3 t3 => ?_
  exact ⟨_, _, rfl, rfl, _, rfl, hq H3 (x2.trans x3) t3⟩
end
end PM
namespace PM
open PySem PySem.Spec PyProof.Rows L2 GenW
theorem eqv_self {d : PyData} (h : SeqAt.shaped d = true) : PyData.eqv d d = true := PySem.SeqAt.eqv_refl d (by
  have h : (PyData.canLay0 d && decide (PyData.depth d ≤ 64)) = true := h
  rw [Bool.and_eq_true] at h
  exact h.1)
theorem neB {a b : Bool} {A B : Prop} (e : a = b) (h : B) : if (!decide (V.bl a = V.bl b)) = true then A else B := by
  subst e
  simp
  exact h
theorem neI {a b : Int} {A B : Prop} (e : a = b) (h : B) : if (!decide (V.int a = V.int b)) = true then A else B := by
  subst e
  simp
  exact h
/-- envies(rows, lots, j, k) -/
theorem envies_at {K : PySem.W.Frag} {T : List (Addr × Str)} {ti tk tj tl : TE} {σ : L2.St} {H : Hp} {Q : VK} {ra la : Addr} {R L : List (List Int)} {m j k : Nat} {zj zk : Int} (hR : LofT K H ra R) (hL : LofT K H la L) (fit : Fits R L m) (t0 : Tabs T H)
    (hj : j < R.length) (hk : k < R.length) (ej : zj = (j : Nat)) (ek : zk = (k : Nat)) (i5 : ∀ H Q, Q (.ref ra) H → ti σ H Q) (i7 : ∀ H Q, Q (.ref la) H → tk σ H Q) (i1 : ∀ H Q, Q (.int zj) H → tj σ H Q) (i2 : ∀ H Q, Q (.int zk) H → tl σ H Q)
    (q : ∀ H', Ext H H' → Tabs T H' → Q (.bl (envy R L j k)) H') :
    tCall (spEnvies K T) [] E0 (tCons ti (tCons tk (tCons tj (tCons tl tNil)))) σ H Q := by
  subst ej ek
  exact i5 _ _ (i7 _ _ (i1 _ _ (i2 _ _ ⟨ra, la, R, L, m, j, k, rfl, hR, hL, fit, hj, hk, t0, q⟩)))
section
variable {P : Program} {w : World} {K : PySem.W.Frag} {mg : Str → Option Value} {base : Heap} {f : Addr} {cdv : Value} {A : Around} {outer : List Env} {s : Shared} {H0 Hb : Hp} {E : XK} {T : List (Addr × Str)}
abbrev tHurtE (K : PySem.W.Frag) (T : List (Addr × Str)) : TT := tTest (tCall (spEnvies K T) [] E0 (tCons (tVar 5) (tCons (tVar 7) (tCons (tVar 19) (tCons (tVar 4) tNil)))))
theorem step8 {lv : Nat} (hr : Room lv (A.deeper (envOfC "law" (defScope sLaw) s.heap.objs.size f cdv))) (mr : mg "range" = none)
    {fF : Addr} {dF : FuncData} (FF : Fun K "_law_flat" "_law_flat" sLFlat fF dF) (bF : Binds K dF ["_law_rows"] []) (gF : mg "_law_flat" = some (.ref fF)) (GF : FnOk P w K mg base CX0 lv fF dF ["_law_rows"] (spLFlat K))
    {fE : Addr} {dE : FuncData} (FE : Fun K "envies" "envies" sEnvies fE dE) (bE : Binds K dE ["rows", "lots", "one", "other"] []) (gE : mg "envies" = some (.ref fE)) (GE : FnOk P w K mg base CX0 lv fE dE ["rows", "lots", "one", "other"] (spEnvies K T))
    {fB : Addr} {dB : FuncData} (FB : Fun K "but_one" "but_one" sBut fB dB) (bB : Binds K dB ["rows", "lots"] []) (gB : mg "but_one" = some (.ref fB)) (GB : FnOk P w K mg base CX0 lv fB dB ["rows", "lots"] (spBut K T))
    {fL : Addr} {dL : FuncData} (FL : Fun K "_law_but_one" "_law_but_one" sLBut fL dL) (bL : Binds K dL ["_law_rows", "_law_lots"] []) (gL : mg "_law_but_one" = some (.ref fL)) (GL : FnOk P w K mg base CX0 lv fL dL ["_law_rows", "_law_lots"] (spLBut K T))
    {fC : Addr} {dC : FuncData} (FC : Fun K "is_calm" "is_calm" sCalm fC dC) (bC : Binds K dC ["rows", "lots"] []) (gC : mg "is_calm" = some (.ref fC)) (GC : FnOk P w K mg base CX0 lv fC dC ["rows", "lots"] (spCalm K T))
    {ra ob : Addr} {n m : Nat} (hn : n ≤ 3) (hm : m ≤ 5) {R : List (List Int)} (ok : RowsOk R n m) {order : List Nat} {sc d k4 s11 o12 p13 t14 l15 d16 b17 : Option V} :
    Step (lX P w K mg base f cdv A outer s Hb E) (lawB 8) (fun σ H => ∃ (t8 d9 : Option V) (la hu : Addr) (L : List (List Int)), σ = lS sc d (some (.int (n : Nat))) (some (.int (m : Nat))) k4 (some (.ref ra)) (some (.ref ob)) (some (.ref la)) t8 d9 (some (.ref hu)) s11 o12 p13 t14 l15 d16 b17 ∧ LB K T H0 ra ob R order H ∧ LofT K H la L ∧ LotInv L n m ∧ LofT K H hu (hurtL R L n))
      (fun σ H => ∃ (t8 d9 h10 : Option V) (la : Addr) (L : List (List Int)), σ = lS sc d (some (.int (n : Nat))) (some (.int (m : Nat))) k4 (some (.ref ra)) (some (.ref ob)) (some (.ref la)) t8 d9 h10 s11 o12 p13 t14 l15 d16 b17 ∧ LB K T H0 ra ob R order H ∧ LofT K H la L ∧ LotInv L n m) := by
  refine ⟨_, ps_if (PW.pt (pw_or (pt_cmpR op_ne (pe_call GB hr (by rfl) gB FB.kp bB .nil pass0 (pa_cons (pv 5) (pa_cons (pv 7) pa_nil))) (pe_call GL hr (by rfl) gL FL.kp bL .nil pass0 (pa_cons (pv 5) (pa_cons (pv 7) pa_nil))) (nomark _))
    (pw_or (pt_cmpR op_ne (pe_call GC hr (by rfl) gC FC.kp bC .nil pass0 (pa_cons (pv 5) (pa_cons (pv 7) pa_nil))) (pe_cmpR (op_eqD hr.units) (pv 10) (pe_lst pa_nil) (nomark _)) (nomark _))
    (pw_or1 (pt_cmpR (op_neD hr.units) (pe_call GF hr (by rfl) gF FF.kp bF .nil pass0 (pa_cons (pe_lc (own := [("_law_j", 19)]) (g := gName 19) (tt := tYes) (te := tLc (iRng1 (tCons (tVar 2) tNil)) (gName 4) (tHurtE K T) (tTup (tCons (tVar 19) (tCons (tVar 4) tNil))) [4]) rfl scLaw.nd (pi_range1 (by rfl) mr (pa_cons (pv 2) pa_nil)) (blkOk_by (N := lawN) (sc := defScope sLaw) (by decide +kernel)) (fun _ _ _ _ _ => pg_name (i := 19) scLaw.nd rfl (Or.inr rfl)) (fun _ _ _ _ _ => pts_nil)
      (fun _ _ _ _ _ => pe_lc (own := [("_law_k", 4)]) (g := gName 4) (tt := tHurtE K T) (te := tTup (tCons (tVar 19) (tCons (tVar 4) tNil))) rfl scLaw.nd (pi_range1 (by rfl) mr (pa_cons (pv 2) pa_nil)) (blkOk_by (N := lawN) (by kernel_rfl)) (fun _ _ _ _ _ => pg_name (i := 4) scLaw.nd rfl (Or.inl rfl)) (fun _ _ _ _ _ => pts_one (pt_val (pe_call GE hr (by rfl) gE FE.kp bE .nil pass0 (pa_cons (pv 5) (pa_cons (pv 7) (pa_cons (pv 19) (pa_cons (pv 4) pa_nil)))))))
        (fun _ _ _ _ _ => pe_tup (pa_cons (pv 19) (pa_cons (pv 4) pa_nil))))) pa_nil)) (pv 10) (nomark _)))))) (pss_one (ps_ret pe_bl)) pss_nil, fun D σ H ⟨t8, d9, la, hu, L, es, lb, hL, inv, hh⟩ hn' => ?_⟩
  subst es
  have fit := inv.fits ok (Nat.le_refl m)
  have hR : R.length = n := ok.len
  have ll := lots_len inv hm
  refine ⟨.ref ra, rfl, .ref la, rfl, ra, la, R, L, m, rfl, lb.rows.t, .inl hL, fit, lb.tabs, fun H1 x1 t1 => ?_⟩
  refine ⟨.ref ra, rfl, .ref la, rfl, ra, la, R, L, m, rfl, lb.rows.t.ext x1, .inl (hL.ext x1), fit, ll, by omega, t1, fun H2 x2 t2 => ?_⟩
  have x02 := x1.trans x2
  refine ⟨rfl, _, rfl, neB rfl ?_⟩
  refine ⟨.ref ra, rfl, .ref la, rfl, ra, la, R, L, m, rfl, lb.rows.t.ext x02, hL.ext x02, fit, by omega, t2, fun H3 x3 t3 => ?_⟩
  have x03 := x02.trans x3
  obtain ⟨vh, hh1, hh2⟩ := hh
  refine ⟨.ref hu, rfl, Nat.zero_le _, fun pe hpe => ?_⟩
  have x4 := x03.trans (Ext.new (o := .lst []) hpe)
  have t4 := t3.same (Same.new (o := .lst []) hpe)
  refine ⟨_, _, .lst (x4.seqL hh1) (dpTups vh _ (hh2.ext x4)), .lst (SqL.of upd_same) .nil, shapedTups _, by decide +kernel, rfl, _, rfl, ?_⟩
  refine neB ?_ ?_
  · rw [eqv_nilL, hurt_calm hR]
    refine decide_eq_decide.mpr ?_
    rw [List.map_eq_nil_iff]
  show tHurt K (tHurtE K T) _ _ _
  refine hurt_of (R := R) (L := L) hn t4 (fun j k H1 Qt hj hk x5 t5 hq => ?_) (fun p vs H' fp x5 t5 hp hv => ?_)
  · have x05 := x4.trans x5
    exact envies_at (lb.rows.t.ext x05) (hL.ext x05) fit t5 (by omega) (j := j) (k := k) (by omega) (by omega) (by omega) (fun H Q q => ⟨_, rfl, q⟩) (fun H Q q => ⟨_, rfl, q⟩) (fun H Q q => ⟨_, rfl, q⟩) (fun H Q q => ⟨_, rfl, q⟩) fun H6 x6 t6 => ⟨_, rfl, hq H6 x6 t6⟩
  · have x05 := x4.trans x5
    refine ⟨.ref hu, rfl, _, _, .lst (SqL.of hp) (dpTups vs _ hv), .lst (x05.seqL hh1) (dpTups vh _ (hh2.ext x05)), shapedTups _, shapedTups _, _, rfl, ?_⟩
    rw [eqv_self (shapedTups _)]
    exact hn' _ _ ⟨t8, d9, _, la, L, rfl, lb.go x05 t5, hL.ext x05, inv⟩
end
end PM
namespace PM
open PySem PySem.Spec PyProof.Rows L2 GenW
theorem tC_i {v : V} {σ : L2.St} {H : Hp} {Q : VK} (h : Q v H) : tC v σ H Q := h
theorem more_len {L : List (List Int)} {x : Int} : (L.map fun l => l ++ [x]).flatten.length = L.flatten.length + L.length := by
  induction L with
  | nil => rfl
  | cons a l ih =>
    simp only [List.map_cons, List.flatten_cons, List.length_append, List.length_cons, List.length_nil, ih]
    omega
section
variable {P : Program} {w : World} {K : PySem.W.Frag} {mg : Str → Option Value} {base : Heap} {f : Addr} {cdv : Value} {A : Around} {outer : List Env} {s : Shared} {H0 Hb : Hp} {E : XK} {T : List (Addr × Str)}
theorem step9 {lv : Nat} (hr : Room lv (A.deeper (envOfC "law" (defScope sLaw) s.heap.objs.size f cdv))) (mr : mg "range" = none) (mm : mg "min" = none)
    {fW : Addr} {dW : FuncData} (FW : Fun K "_law_worth" "_law_worth" sLWorth fW dW) (bW : Binds K dW ["_law_row", "_law_lot"] []) (gW : mg "_law_worth" = some (.ref fW)) (GW : FnOk P w K mg base CX0 lv fW dW ["_law_row", "_law_lot"] (spLWorth K T))
    {fO : Addr} {dO : FuncData} (FO : Fun K "worth" "worth" sWorth fO dO) (bO : Binds K dO ["row", "things"] []) (gO : mg "worth" = some (.ref fO)) (GO : FnOk P w K mg base CX0 lv fO dO ["row", "things"] (spWorth K T))
    {fL : Addr} {dL : FuncData} (FL : Fun K "least_worth" "least_worth" sLeast fL dL) (bL : Binds K dL ["rows", "lots"] []) (gL : mg "least_worth" = some (.ref fL)) (GL : FnOk P w K mg base CX0 lv fL dL ["rows", "lots"] (spLeast K T))
    {ra ob : Addr} {n m : Nat} (h0 : 0 < n) (hn : n ≤ 3) (hm : m ≤ 5) {R : List (List Int)} (ok : RowsOk R n m) {order : List Nat} {sc d k4 s11 o12 p13 t14 l15 d16 b17 : Option V} :
    Step (lX P w K mg base f cdv A outer s Hb E) (lawB 9) (fun σ H => ∃ (t8 d9 h10 : Option V) (la : Addr) (L : List (List Int)), σ = lS sc d (some (.int (n : Nat))) (some (.int (m : Nat))) k4 (some (.ref ra)) (some (.ref ob)) (some (.ref la)) t8 d9 h10 s11 o12 p13 t14 l15 d16 b17 ∧ LB K T H0 ra ob R order H ∧ LofT K H la L ∧ LotInv L n m)
      (fun σ H => ∃ (t8 d9 h10 : Option V) (la : Addr) (L : List (List Int)), σ = lS sc d (some (.int (n : Nat))) (some (.int (m : Nat))) k4 (some (.ref ra)) (some (.ref ob)) (some (.ref la)) t8 d9 h10 s11 o12 p13 t14 l15 d16 b17 ∧ LB K T H0 ra ob R order H ∧ LofT K H la L ∧ LotInv L n m) := by
  refine ⟨_, ps_if (PW.pt (pw_or (pt_cmpR op_ne (pe_call GL hr (by rfl) gL FL.kp bL .nil pass0 (pa_cons (pv 5) (pa_cons (pv 7) pa_nil)))
      (pe_callB (cr_min rfl) (by rfl) mm (by decide +kernel) (pa_cons (pe_lc (own := [("_law_k", 4)]) (g := gName 4) (tt := tYes) (te := tCall (spLWorth K T) [] E0 (tCons (tOp (rIxL K) (tVar 5) (tVar 4)) (tCons (tOp (rIxL K) (tVar 7) (tVar 4)) tNil))) rfl scLaw.nd (pi_range1 (by rfl) mr (pa_cons (pv 2) pa_nil)) (blkOk_by (N := lawN) (sc := defScope sLaw) (by decide +kernel)) (fun _ _ _ _ _ => pg_name (i := 4) scLaw.nd rfl (Or.inl rfl)) (fun _ _ _ _ _ => pts_nil)
        (fun _ _ _ _ _ => pe_call GW hr (by rfl) gW FW.kp bW .nil pass0 (pa_cons (pe_ix ix_list (pv 5) (pv 4) (fun _ _ => rfl)) (pa_cons (pe_ix ix_list (pv 7) (pv 4) (fun _ _ => rfl)) pa_nil)))) pa_nil)) (nomark _))
    (pw_or1 (pt_cmpR op_ne (pe_call GO hr (by rfl) gO FO.kp bO .nil pass0 (pa_cons (pe_ix ix_list (pv 5) pe_int (fun _ _ => rfl)) (pa_cons (pe_ix ix_list (pv 7) pe_int (fun _ _ => rfl)) pa_nil))) (pe_call GW hr (by rfl) gW FW.kp bW .nil pass0 (pa_cons (pe_ix ix_list (pv 5) pe_int (fun _ _ => rfl)) (pa_cons (pe_ix ix_list (pv 7) pe_int (fun _ _ => rfl)) pa_nil))) (nomark _))))) (pss_one (ps_ret pe_bl)) pss_nil, fun D σ H ⟨t8, d9, h10, la, L, es, lb, hL, inv⟩ hn' => ?_⟩
  subst es
  have fit := inv.fits ok (Nat.le_refl m)
  have hR : R.length = n := ok.len
  have ll := lots_len inv hm
  have hnn : ((n : Nat) : Int).toNat = n := Int.toNat_natCast n
  refine ⟨.ref ra, rfl, .ref la, rfl, ra, la, R, L, m, rfl, lb.rows.t, hL, fit, by omega, by omega, lb.tabs, fun x H1 mx1 mx2 x1 t1 => ?_⟩
  refine ⟨.int (n : Nat), rfl, (n : Nat), rfl, by omega, by omega, fun D1 hD1 => ?_⟩
  rw [hnn]
  refine lc_gen (T := T) walk_range IntR.st (fun k => some (W (R.getD k []) (L.getD k []))) (by omega) t1 hD1 (fun _ _ => trivial) (fun k y H2 H' acc Qt Qf hk x2 t2 d2 yy hq _ => ?_) (fun H2 ys x2 t2 d2 r2 => ?_)
  · obtain ⟨rfl, rfl⟩ := yy
    have x02 := x1.trans x2
    exact ⟨rfl, lworth_at (lb.rows.t.ext x02) (hL.ext x02) fit (by omega) ll t2 (by omega) (j := k) (k := k) (by omega) (by omega) (by omega) (fun H Q q => ⟨_, rfl, q⟩) (fun H Q q => ⟨_, rfl, q⟩) (fun H Q q => ⟨_, rfl, q⟩) (fun H Q q => ⟨_, rfl, q⟩) fun H3 x3 t3 => hq _ _ _ rfl x3 t3 rfl⟩
  · rw [filterMap_some] at r2
    have ew : (List.range n).map (fun k => W (R.getD k []) (L.getD k [])) = worths R L := by unfold worths; rw [hR]
    rw [ew] at r2
    have eys := rels_ints r2
    subst eys
    have hwl : 0 < (worths R L).length := by
      unfold worths
      rw [List.length_map, List.length_range]
      omega
    refine ⟨D1, worths R L, rfl, SqL.of d2, hwl, fun mn hm1 hm2 => ⟨rfl, _, rfl, neI (least_unique mx1 mx2 hm1 hm2) ?_⟩⟩
    have x02 := x1.trans x2
    have h0L : 0 < L.length := by rw [inv.len]; exact h0
    refine ⟨.ref ra, rfl, tC_i (ix_lof (j := 0) (z := 0) (lb.rows.t.ext x02) (by omega) rfl fun v tv => ⟨.ref la, rfl, tC_i (ix_lof (j := 0) (z := 0) (hL.ext x02) h0L rfl fun u tu => ?_)⟩)⟩
    refine ⟨v, u, _, _, rfl, tv, tu, ?_, t2, fun H3 x3 t3 => ?_⟩
    · rw [getD_at (by omega), getD_at h0L]
      exact fit.lot _ h0L
    · have x03 := x02.trans x3
      exact lworth_at (lb.rows.t.ext x03) (hL.ext x03) fit (by omega) ll t3 (by omega) (j := 0) (k := 0) (by omega) rfl rfl (fun H Q q => ⟨_, rfl, q⟩) (fun H Q q => ⟨_, rfl, q⟩) (fun H Q q => q) (fun H Q q => q) fun H4 x4 t4 => ⟨rfl, _, rfl, neI rfl (hn' _ _ ⟨t8, d9, h10, la, L, rfl, lb.go (x03.trans x4) t4, hL.ext (x03.trans x4), inv⟩)⟩
theorem step10 {lv : Nat} (hr : Room lv (A.deeper (envOfC "law" (defScope sLaw) s.heap.objs.size f cdv)))
    {fG : Addr} {dG : FuncData} (FG : Fun K "all_given" "all_given" sGiven fG dG) (bG : Binds K dG ["rows", "lots"] []) (gG : mg "all_given" = some (.ref fG)) (GG : FnOk P w K mg base CX0 lv fG dG ["rows", "lots"] (spGiven K T))
    {ra ob : Addr} {n m : Nat} (h0 : 0 < n) (hn : n ≤ 3) (hm : m ≤ 5) {R : List (List Int)} (ok : RowsOk R n m) {order : List Nat} {sc d k4 s11 o12 p13 t14 l15 d16 b17 : Option V} :
    Step (lX P w K mg base f cdv A outer s Hb E) (lawB 10) (fun σ H => ∃ (t8 d9 h10 : Option V) (la : Addr) (L : List (List Int)), σ = lS sc d (some (.int (n : Nat))) (some (.int (m : Nat))) k4 (some (.ref ra)) (some (.ref ob)) (some (.ref la)) t8 d9 h10 s11 o12 p13 t14 l15 d16 b17 ∧ LB K T H0 ra ob R order H ∧ LofT K H la L ∧ LotInv L n m)
      (fun σ H => ∃ (l7 t8 d9 h10 : Option V), σ = lS sc d (some (.int (n : Nat))) (some (.int (m : Nat))) k4 (some (.ref ra)) (some (.ref ob)) l7 t8 d9 h10 s11 o12 p13 t14 l15 d16 b17 ∧ LB K T H0 ra ob R order H) := by
  refine ⟨_, ps_if (PW.pt (pw_or (pt_not (pt_val (pe_call GG hr (by rfl) gG FG.kp bG .nil pass0 (pa_cons (pv 5) (pa_cons (pv 7) pa_nil)))))
    (pw_or1 (pt_val (pe_call GG hr (by rfl) gG FG.kp bG .nil pass0 (pa_cons (pv 5) (pa_cons (pe_lc (own := [("_law_lot", 18)]) (g := gName 18) (tt := tYes) (te := tOp (rCatA K) (tVar 18) (tTup (tCons (tVar 3) tNil))) rfl scLaw.nd (pi_list (pv 7)) (blkOk_by (N := lawN) (sc := defScope sLaw) (by decide +kernel)) (fun _ _ _ _ _ => pg_name (i := 18) scLaw.nd rfl (Or.inl rfl)) (fun _ _ _ _ _ => pts_nil)
        (fun _ _ _ _ _ => pe_op op_catA (pv 18) (pe_tup (pa_cons (pv 3) pa_nil)))) pa_nil))))))) (pss_one (ps_ret pe_bl)) pss_nil, fun D σ H ⟨t8, d9, h10, la, L, es, lb, hL, inv⟩ hn' => ?_⟩
  subst es
  have ll := lots_len inv hm
  have hfl := inv.flat
  have hfn : L.flatten.length = m := by rw [hfl.length_eq, upto_len]
  refine ⟨.ref ra, rfl, .ref la, rfl, ra, la, R, L, n, m, rfl, lb.rows.t, .inl hL, h0, by omega, by omega, ok, inv.len, by omega, lb.tabs, fun _ H1 x1 t1 => ?_, fun z => absurd hfl z⟩
  refine ⟨_, rfl, iteF ?_⟩
  obtain ⟨vl, hL1, hL2⟩ := hL
  have hvl : vl.length = L.length := hL2.1
  refine ⟨.ref ra, rfl, .ref la, rfl, la, rfl, ⟨_, x1.seqL hL1⟩, fun D1 hD1 => lc_gen (T := T) (Rel := TupI K) (walk_list (K := K) (a := la) (xs := vl)) TupI.st (fun i => some (L.getD i [] ++ [(m : Int)])) (by rw [hvl, inv.len]; omega) t1 hD1 (fun H2 x2 => (x1.trans x2).seqL hL1) (fun i x H2 H' acc Qt Qf hi x2 t2 d2 y hq _ => ?_) (fun H2 ys x2 t2 d2 r2 => ?_)⟩
  · obtain ⟨rfl, hx⟩ := y
    have hiL : i < L.length := by omega
    obtain ⟨p, rfl, hp⟩ := hL2.2 i x _ hx (List.getElem?_eq_getElem hiL)
    have hp2 := (x1.trans x2).seqT hp
    refine ⟨rfl, .ref p, rfl, .int (m : Nat), rfl, by show 1 ≤ sizeLine; decide, fun p2 hp2n => ?_⟩
    have x3 : Ext H' (upd H' p2 (.tup [.int (m : Nat)])) := Ext.new hp2n
    have t3 := t2.same (Same.new (o := .tup [.int (m : Nat)]) hp2n)
    refine ⟨p, p2, _, _, rfl, rfl, x3.seqT hp2, SqT.of upd_same, ?_, fun hnil => ?_, fun _ z => absurd z (by simp), fun hne _ p3 hp3 => ?_⟩
    · rw [List.length_map]
      have := ll _ (List.getElem_mem hiL)
      have := small1000 (n := L[i].length) (by omega)
      show L[i].length + 1 ≤ sizeLine
      omega
    · have : L[i] = [] := List.map_eq_nil_iff.mp hnil
      refine hq _ _ _ rfl x3 t3 ⟨p2, rfl, SqT.of ?_⟩
      rw [del_new d2 hp2n upd_same, getD_at hiL, this]
      rfl
    · refine hq _ _ _ rfl (x3.trans (Ext.new hp3)) (t3.same (Same.new hp3)) ⟨p3, rfl, SqT.of ?_⟩
      rw [del_new (x3.lst d2) hp3 upd_same, getD_at hiL, List.map_append]
      rfl
  · rw [filterMap_some, hvl] at r2
    have e : (List.range L.length).map (fun i => L.getD i [] ++ [(m : Int)]) = L.map fun l => l ++ [(m : Int)] := by
      apply List.ext_getElem
      · simp
      · intro i h1 h2
        simp at h1
        simp [h1]
    rw [e] at r2
    have hlen := more_len (L := L) (x := (m : Int))
    refine ⟨ra, D1, R, L.map fun l => l ++ [(m : Int)], n, m, rfl, lb.rows.t.ext (x1.trans x2), .inl ⟨ys, SqL.of d2, TupsI.ext r2 del_sub⟩, h0, by omega, by omega, ok, by rw [List.length_map, inv.len], by rw [hlen, hfn, inv.len]; omega, t2, fun hp => ?_, fun _ H3 x3 t3 => ?_⟩
    · have := hp.length_eq
      rw [hlen, hfn, inv.len, upto_len] at this
      omega
    · exact ⟨_, rfl, iteF (hn' _ _ ⟨_, t8, d9, h10, rfl, lb.go ((x1.trans x2).trans x3) t3⟩)⟩
end
end PM
namespace PM
open PySem PySem.Spec PyProof.Rows L2 GenW
theorem TofT.extT {K : PySem.W.Frag} {H H' : Hp} {a : Addr} {R : List (List Int)} (h : TofT K H a R) (e : Ext H H') : TofT K H' a R := by
  obtain ⟨vs, h1, h2⟩ := h
  exact ⟨vs, e.seqT h1, h2.ext e⟩
theorem rels_intsR {H : Hp} {ns : List Int} : Rels IntR H (ns.map V.int) ns := ⟨by simp, fun i v r a b => by
  rw [List.getElem?_map, b] at a
  exact (Option.some.inj a).symm⟩
section
variable {P : Program} {w : World} {K : PySem.W.Frag} {mg : Str → Option Value} {base : Heap} {f : Addr} {cdv : Value} {A : Around} {outer : List Env} {s : Shared} {H0 Hb : Hp} {E : XK} {T : List (Addr × Str)}
theorem step3 {C : Addr} {lv : Nat} (hr : Room lv (A.deeper (envOfC "law" (defScope sLaw) s.heap.objs.size f cdv))) (mr : mg "range" = none) (ms : mg "sorted" = none) (mli : mg "list" = none)
    {fS : Addr} {dS : FuncData} (FS : Fun K "share" "share" sShare fS dS) (bS : Binds K dS ["rows"] []) (gS : mg "share" = some (.ref fS)) (GS : FnOk P w K mg base (L2.CX P w) lv fS dS ["rows"] (spShare K T C))
    {fR : Addr} {dR : FuncData} (FR : Fun K "in_rounds" "in_rounds" sRounds fR dR) (bR : Binds K dR ["rows", "order"] []) (gR : mg "in_rounds" = some (.ref fR)) (GR : FnOk P w K mg base CX0 lv fR dR ["rows", "order"] (spRounds K T))
    {fF : Addr} {dF : FuncData} (FF : Fun K "_law_flat" "_law_flat" sLFlat fF dF) (bF : Binds K dF ["_law_rows"] []) (gF : mg "_law_flat" = some (.ref fF)) (GF : FnOk P w K mg base CX0 lv fF dF ["_law_rows"] (spLFlat K))
    {fG : Addr} {dG : FuncData} (FG : Fun K "all_given" "all_given" sGiven fG dG) (bG : Binds K dG ["rows", "lots"] []) (gG : mg "all_given" = some (.ref fG)) (GG : FnOk P w K mg base CX0 lv fG dG ["rows", "lots"] (spGiven K T))
    {fB : Addr} {dB : FuncData} (FB : Fun K "but_one" "but_one" sBut fB dB) (bB : Binds K dB ["rows", "lots"] []) (gB : mg "but_one" = some (.ref fB)) (GB : FnOk P w K mg base CX0 lv fB dB ["rows", "lots"] (spBut K T))
    {fL : Addr} {dL : FuncData} (FL : Fun K "_law_but_one" "_law_but_one" sLBut fL dL) (bL : Binds K dL ["_law_rows", "_law_lots"] []) (gL : mg "_law_but_one" = some (.ref fL)) (GL : FnOk P w K mg base CX0 lv fL dL ["_law_rows", "_law_lots"] (spLBut K T))
    {d ra ob : Addr} {n m : Nat} (h0 : 0 < n) (hn : n ≤ 3) (hm : m ≤ 5) {R : List (List Int)} (ok : RowsOk R n m) {sc k4 t8 d9 h10 s11 o12 p13 t14 l15 d16 b17 : Option V} :
    Step (lX P w K mg base f cdv A outer s Hb E) (lawB 3) (fun σ H => ∃ (l7 : Option V), σ = lS sc (some (.ref d)) (some (.int (n : Nat))) (some (.int (m : Nat))) k4 (some (.ref ra)) (some (.ref ob)) l7 t8 d9 h10 s11 o12 p13 t14 l15 d16 b17 ∧ LB K T H0 ra ob R (lawOrder n) H ∧ DiceAt H d ∧ ra ≠ d ∧ ob ≠ d)
      (fun σ H => ∃ (l7 : Option V), σ = lS sc (some (.ref d)) (some (.int (n : Nat))) (some (.int (m : Nat))) k4 (some (.ref ra)) (some (.ref ob)) l7 t8 d9 h10 s11 o12 p13 t14 l15 d16 b17 ∧ LB K T H0 ra ob R (lawOrder n) H ∧ DiceAt H d ∧ ra ≠ d ∧ ob ≠ d) := by
  refine ⟨_, ps_for PassesOwn.never rfl (pi_list (pe_lst (pa_cons (pe_call GS hr (by rfl) gS FS.kp bS .nil (E := E0) passL (pa_cons (pv 5) pa_nil)) (pa_cons (pe_call GR hr (by rfl) gR FR.kp bR .nil pass0 (pa_cons (pv 5) (pa_cons (pv 6) pa_nil))) pa_nil)))) (pg_name (i := 7) scLaw.nd rfl (.inr rfl))
    (pss_cons (ps_if (PW.pt (pw_or (pt_cmpR (op_neD hr.units) (pe_callB cr_sortedI (by rfl) ms (by decide +kernel) (pa_cons (pe_call GF hr (by rfl) gF FF.kp bF .nil pass0 (pa_cons
          (pe_lc (own := [("_law_lot", 18)]) (g := gName 18) (tt := tYes) (te := tLc (iTup K (tVar 18)) (gName 8) tYes (tVar 8) [8]) rfl scLaw.nd (pi_tup (pv 7)) (blkOk_by (N := lawN) (sc := defScope sLaw) (by decide +kernel)) (fun _ _ _ _ _ => pg_name (i := 18) scLaw.nd rfl (Or.inl rfl)) (fun _ _ _ _ _ => pts_nil)
            (fun _ _ _ _ _ => pe_lc (own := [("_law_thing", 8)]) (g := gName 8) (tt := tYes) (te := tVar 8) rfl scLaw.nd (pi_tup (pv 18)) (blkOk_by (N := lawN) (by kernel_rfl)) (fun _ _ _ _ _ => pg_name (i := 8) scLaw.nd rfl (Or.inl rfl)) (fun _ _ _ _ _ => pts_nil) (fun _ _ _ _ _ => pv 8))) pa_nil)) pa_nil))
          (pe_listRg rfl (by rfl) mli (prg_1 (by rfl) mr (pv 3))) (nomark _))
        (pw_or1 (pt_not (pt_val (pe_call GG hr (by rfl) gG FG.kp bG .nil pass0 (pa_cons (pv 5) (pa_cons (pv 7) pa_nil)))))))) (pss_one (ps_ret pe_bl)) pss_nil)
    (pss_one (ps_if (PW.pt (pw_or (pt_not (pt_val (pe_call GL hr (by rfl) gL FL.kp bL .nil pass0 (pa_cons (pv 5) (pa_cons (pv 7) pa_nil)))))
        (pw_or (pt_not (pt_val (pe_call GB hr (by rfl) gB FB.kp bB .nil pass0 (pa_cons (pv 5) (pa_cons (pv 7) pa_nil)))))
        (pw_or1 (pt_cmpR (op_neD hr.units) (pe_lc (own := [("_law_lot", 18)]) (g := gName 18) (tt := tTest (tOp (rNeD K) (tCB (fun xs H Q => ∃ p ys, xs = [.ref p] ∧ (SqL K H p ys ∨ SqT K H p ys) ∧ ∀ l, H l = none → Q (.ref l) (upd H l (.lst ys))) (tCons (tVar 18) tNil)) (tCB (rSortedTI K) (tCons (tVar 18) tNil)))) (te := tVar 18) rfl scLaw.nd (pi_tup (pv 7)) (blkOk_by (N := lawN) (sc := defScope sLaw) (by decide +kernel)) (fun _ _ _ _ _ => pg_name (i := 18) scLaw.nd rfl (Or.inl rfl)) 
            (fun _ _ _ _ _ => pts_one (pt_cmpR (op_neD hr.units) (pe_callTy call_list_of (by rfl) mli (by decide +kernel) (pa_cons (pv 18) pa_nil)) (pe_callB (r := rSortedTI K) cr_sortedTI (by rfl) ms (by decide +kernel) (pa_cons (pv 18) pa_nil)) (nomark _))) (fun _ _ _ _ _ => pv 18)) (pe_lst pa_nil) (nomark _)))))) (pss_one (ps_ret pe_bl)) pss_nil))), fun D σ H ⟨l7, es, lb, dc, nrd, nod⟩ hn' => ?_⟩
  subst es
  have hR : R.length = n := ok.len
  refine ⟨.ref ra, rfl, ra, R, rfl, lb.rows.t, by omega, fun r hr' => by rw [(ok.row r hr').1]; omega, lb.tabs, .inl ⟨n, m, h0, ok, fun L1 H1 p1 g1 f1 x1 t1 w1 => ?_⟩⟩
  refine ⟨.ref ra, rfl, .ref ob, rfl, ra, ob, R, lawOrder n, n, m, rfl, lb.rows.t.ext x1, SqL.of (x1.lst lb.ord), h0, by omega, by omega, ok, order_ok h0 hn, t1, fun L2 H2 p2 g2 re2 f2 x2 t2 w2 => ?_⟩
  refine ⟨by show 2 ≤ sizeLine; decide, fun pl hpl => ?_⟩
  have x03 := (x1.trans x2).trans (Ext.new (o := .lst [.ref p1, .ref p2]) hpl)
  have t3 := t2.same (Same.new (o := .lst [.ref p1, .ref p2]) hpl)
  have w1 := w1.extT (x2.trans (Ext.new (o := .lst [.ref p1, .ref p2]) hpl))
  have w2 := w2.extT (Ext.new (o := .lst [.ref p1, .ref p2]) hpl)
  obtain ⟨H3, eH3⟩ : ∃ H3, H3 = upd H2 pl (.lst [.ref p1, .ref p2]) := ⟨_, rfl⟩
  have l3 : H3 pl = some (.lst [.ref p1, .ref p2]) := by rw [eH3, upd_same]
  rw [← eH3] at x03 t3 w1 w2 ⊢
  refine ⟨pl, rfl, ⟨_, SqL.of l3⟩, for_list (xs := [.ref p1, .ref p2]) (fun i σ H4 => ∃ l7, σ = lS sc (some (.ref d)) (some (.int (n : Nat))) (some (.int (m : Nat))) k4 (some (.ref ra)) (some (.ref ob)) l7 t8 d9 h10 s11 o12 p13 t14 l15 d16 b17 ∧ Ext H3 H4 ∧ Tabs T H4)
    ⟨l7, rfl, Ext.refl _, t3⟩ (fun i σ H4 _ ⟨_, _, x4, _⟩ => SqL.of (x4.lst l3)) (fun i x σ H4 hx ⟨l7, es, x4, t4⟩ => ?_) (fun σ H4 ⟨l7, es, x4, t4⟩ => hn' _ _ ⟨l7, es, lb.go (x03.trans x4) t4, dc.ext (x03.trans x4), nrd, nod⟩)⟩
  subst es
  obtain ⟨p, Ls, rfl, wp, gp⟩ : ∃ p Ls, x = .ref p ∧ TofT K H4 p Ls ∧ Given R Ls n m := by
    have : i = 0 ∨ i = 1 := by
      have := (List.getElem?_eq_some_iff.mp hx).1
      simp at this
      omega
    rcases this with rfl | rfl
    · exact ⟨p1, L1, (Option.some.inj hx).symm, w1.extT x4, g1⟩
    · exact ⟨p2, L2, (Option.some.inj hx).symm, w2.extT x4, g2⟩
  have x04 := x03.trans x4
  have fit := gp.inv.fits ok (Nat.le_refl m)
  have ll := lots_len gp.inv hm
  have hfl := gp.inv.flat
  have hfn : Ls.flatten.length = m := by rw [hfl.length_eq, upto_len]
  obtain ⟨vl, hL1, hL2⟩ := id wp
  have hvl : vl.length = Ls.length := hL2.1
  have hln : Ls.length = n := gp.inv.len
  -- sorted(flat(..)) != list(range(things))
  refine ⟨.ref p, rfl, p, rfl, ⟨_, hL1⟩, fun D1 hD1 => lc_gen (T := T) (Rel := LRel IntR) (walk_tup (K := K) (a := p) (xs := vl)) (LRel.st IntR.st) (fun i => some (Ls.getD i [])) (by omega) t4 hD1 (fun H5 x5 => x5.seqT hL1) (fun i x H5 H' acc Qt Qf hi x5 t5 d5 y hq _ => ?_) (fun H5 ys x5 t5 d5 r5 => ?_)⟩
  · obtain ⟨rfl, hx⟩ := y
    have hiL : i < Ls.length := by omega
    obtain ⟨q, rfl, hp⟩ := hL2.2 i x _ hx (List.getElem?_eq_getElem hiL)
    have hp5 := x5.seqT hp
    have wt := walk_tup (K := K) (a := q) (xs := Ls[i].map V.int)
    rw [List.length_map] at wt
    refine ⟨rfl, .ref q, rfl, q, rfl, ⟨_, hp5⟩, fun D2 hD2 => lc_gen (T := T) (Rel := IntR) wt IntR.st (fun j => some (Ls[i].getD j 0)) (ll _ (List.getElem_mem hiL)) t5 hD2 (fun H6 x6 => x6.seqT hp5) (fun j x H6 H7' acc2 Qt2 Qf2 hj x6 t6 d6 y hq2 _ => ?_) (fun H6 ys x6 t6 d6 r6 => ?_)⟩
    · obtain ⟨rfl, hx2⟩ := y
      rw [List.getElem?_map, List.getElem?_eq_getElem hj] at hx2
      obtain rfl := Option.some.inj hx2
      exact ⟨rfl, .int Ls[i][j], rfl, hq2 _ _ _ rfl (Ext.refl _) t6 (by show V.int _ = V.int _; simp [hj])⟩
    · rw [filterMap_some, map_at0 (fun x => x)] at r6
      simp only [List.map_id'] at r6
      have eys := rels_ints r6
      subst eys
      exact hq _ _ _ rfl x6 t6 ⟨D2, _, rfl, del_new d5 hD2 d6, by rw [getD_at hiL]; exact rels_intsR⟩
  · rw [filterMap_some, hvl] at r5
    have e : (List.range Ls.length).map (fun i => Ls.getD i []) = Ls := by
      apply List.ext_getElem
      · simp
      · intro i h1 h2
        simp [h2]
    rw [e] at r5
    obtain ⟨xss, q1, q2⟩ := rels_flat (r5.ext (LRel.st IntR.st) del_sub)
    have exs := rels_ints q2
    refine ⟨D1, ys, xss, rfl, SqL.of d5, q1, by rw [exs, List.length_map, hfn]; omega, fun H6 q nq sm6 hq6 => ?_⟩
    rw [exs] at hq6
    refine ⟨q, Ls.flatten, rfl, SqL.of hq6, fun ns' p6 perm srt hp6 => ?_⟩
    have x46 := x5.trans (Ext.of sm6)
    have t6 := t5.same sm6
    refine ⟨.int (m : Nat), rfl, _, rfl, RgOk.of_le (by omega) (by omega) (by omega) (by omega), fun p7 hp7 => ?_⟩
    rw [rgV_upto]
    have x7 : Ext (upd H6 p6 (.lst (ns'.map V.int))) (upd (upd H6 p6 (.lst (ns'.map V.int))) p7 (.lst ((upto m).map V.int))) := Ext.new hp7
    have x47 := (x46.trans (Ext.new (o := .lst (ns'.map V.int)) hp6)).trans x7
    have t7 := (t6.same (Same.new (o := .lst (ns'.map V.int)) hp6)).same (Same.new (o := .lst ((upto m).map V.int)) hp7)
    refine ⟨_, _, .lst (SqL.of (x7.lst upd_same)) (dpInts ns'), .lst (SqL.of upd_same) (dpInts (upto m)), shapedIntsL _, shapedIntsL _, _, rfl, ?_⟩
    have e8 : ns' = upto m := List.Perm.eq_of_pairwise (fun a b _ _ h1 h2 => by omega) srt (upto_sorted m) (perm.trans hfl)
    rw [eqv_intsL, decide_eq_true e8]
    have x07 := x04.trans x47
    refine iteF ⟨.ref ra, rfl, .ref p, rfl, ra, p, R, Ls, n, m, rfl, lb.rows.t.ext x07, .inr (wp.extT x47), h0, by omega, by omega, ok, hln, by omega, t7, fun _ H8 x8 t8' => ?_, fun z => absurd hfl z⟩
    have x48 := x47.trans x8
    have x08 := x07.trans x8
    refine ⟨_, rfl, iteF ?_⟩
    -- not _law_but_one(..) or not but_one(..) or ..
    refine ⟨.ref ra, rfl, .ref p, rfl, ra, p, R, Ls, m, rfl, lb.rows.t.ext x08, .inr (wp.extT x48), fit, ll, by omega, t8', fun H9 x9 t9 => ?_⟩
    have x49 := x48.trans x9
    have x09 := x08.trans x9
    rw [gp.but]
    refine ⟨_, rfl, iteF ⟨.ref ra, rfl, .ref p, rfl, ra, p, R, Ls, m, rfl, lb.rows.t.ext x09, .inr (wp.extT x49), fit, t9, fun Ha xa ta => ?_⟩⟩
    have x4a := x49.trans xa
    rw [gp.but]
    refine ⟨_, rfl, iteF ⟨.ref p, rfl, p, rfl, ⟨_, x4a.seqT hL1⟩, fun D3 hD3 => lc_gen (T := T) (Rel := IntR) (walk_tup (K := K) (a := p) (xs := vl)) IntR.st (fun i => none) (by omega) ta hD3 (fun H5 x5 => (x4a.trans x5).seqT hL1) (fun i x H5 H' acc Qt Qf hi x5 t5 d5 y _ hf => ?_) (fun H5 ys x5 t5 d5 r5 => ?_)⟩⟩
    · obtain ⟨rfl, hx⟩ := y
      have hiL : i < Ls.length := by omega
      obtain ⟨q, rfl, hp⟩ := hL2.2 i x _ hx (List.getElem?_eq_getElem hiL)
      have hp5 := (x4a.trans x5).seqT hp
      refine ⟨rfl, .ref q, rfl, q, _, rfl, .inr hp5, fun pa hpa => ?_⟩
      have xb : Ext H' (upd H' pa (.lst (Ls[i].map V.int))) := Ext.new hpa
      refine ⟨.ref q, rfl, q, Ls[i], rfl, xb.seqT hp5, fun ns' pb perm srt hpb => ?_⟩
      have xc := Ext.new (o := .lst (ns'.map V.int)) hpb
      refine ⟨_, _, .lst (SqL.of (xc.lst upd_same)) (dpInts _), .lst (SqL.of upd_same) (dpInts ns'), shapedIntsL _, shapedIntsL _, _, rfl, ?_⟩
      have e8 : Ls[i] = ns' := List.Perm.eq_of_pairwise (fun a b _ _ h1 h2 => by omega) (gp.srt _ (List.getElem_mem hiL)) srt perm.symm
      rw [eqv_intsL, decide_eq_true e8]
      exact iteF (hf _ rfl (xb.trans xc) ((t5.same (Same.new (o := .lst (Ls[i].map V.int)) hpa)).same (Same.new (o := .lst (ns'.map V.int)) hpb)))
    · have eys : ys = [] := by
        have := r5.1
        have e : (List.range vl.length).filterMap (fun _ => (none : Option Int)) = [] := by simp
        rw [e] at this
        exact List.length_eq_zero_iff.mp this
      subst eys
      refine ⟨Nat.zero_le _, fun pe hpe => ?_⟩
      have xb := Ext.new (o := .lst []) hpe
      refine ⟨_, _, .lst (SqL.of (xb.lst d5)) .nil, .lst (SqL.of upd_same) .nil, by decide +kernel, by decide +kernel, _, rfl, ?_⟩
      exact iteF ⟨_, rfl, x4.trans ((x4a.trans x5).trans xb), t5.same (Same.new (o := .lst []) hpe)⟩
end
end PM
namespace PM
open PySem PySem.Spec PyProof.Rows L2 GenW
theorem put_range {s : List Int} {n p : Nat} {x : Int} (hl : s.length = n) (hp : p < n) : ((List.range n).map fun k => s.getD k 0 + (if k = p then x else 0)) = putOn s p x := by
  apply List.ext_getElem?
  intro k
  have hlen : (putOn s p x).length = n := by rw [putOn_len (by omega), hl]
  by_cases hk : k < n
  · rw [List.getElem?_map, List.getElem?_range hk]
    have hks : s.getD k 0 = s[k]'(by omega) := by simp [show k < s.length by omega]
    have hps : s.getD p 0 = s[p]'(by omega) := by simp [show p < s.length by omega]
    have ht : (s.take p).length = p := by rw [List.length_take]; omega
    show some (s.getD k 0 + (if k = p then x else 0)) = (s.take p ++ [s.getD p 0 + x] ++ s.drop (p + 1))[k]?
    rcases Nat.lt_trichotomy k p with h | h | h
    · rw [if_neg (by omega), List.append_assoc, List.getElem?_append_left (by omega), List.getElem?_take_of_lt h, List.getElem?_eq_getElem (by omega), hks]
      simp
    · subst h
      rw [if_pos rfl, List.append_assoc, List.getElem?_append_right (by omega), ht]
      simp
    · rw [if_neg (by omega), List.getElem?_append_right (by simp; omega)]
      rw [List.getElem?_drop, hks]
      have e : p + 1 + (k - (s.take p ++ [s.getD p 0 + x]).length) = k := by
        rw [List.length_append, ht]
        simp
        omega
      rw [e, List.getElem?_eq_getElem (by omega)]
      simp
  · rw [List.getElem?_eq_none (by simp; omega), List.getElem?_eq_none (by omega)]
section
variable {P : Program} {w : World} {K : PySem.W.Frag} {mg : Str → Option Value} {base : Heap} {f : Addr} {cdv : Value} {A : Around} {outer : List Env} {s : Shared} {H0 Hb : Hp} {E : XK} {T : List (Addr × Str)}
theorem step11 {ra ob : Addr} {n : Nat} (hn : n ≤ 3) {R : List (List Int)} {order : List Nat} {sc d m k4 o12 p13 t14 l15 d16 b17 : Option V} :
    Step (lX P w K mg base f cdv A outer s Hb E) (lawB 11) (fun σ H => ∃ (l7 t8 d9 h10 s11 : Option V), σ = lS sc d (some (.int (n : Nat))) m k4 (some (.ref ra)) (some (.ref ob)) l7 t8 d9 h10 s11 o12 p13 t14 l15 d16 b17 ∧ LB K T H0 ra ob R order H)
      (fun σ H => ∃ (l7 t8 d9 h10 : Option V) (sa : Addr) (ys : List V), σ = lS sc d (some (.int (n : Nat))) m k4 (some (.ref ra)) (some (.ref ob)) l7 t8 d9 h10 (some (.ref sa)) o12 p13 t14 l15 d16 b17 ∧ LB K T H0 ra ob R order H ∧ H sa = some (.lst ys) ∧ Rels LstI H ys (waysN n [])) := by
  refine ⟨_, ps_set (i := 11) scLaw.nd rfl (Or.inl rfl) (pe_lst (pa_cons (pe_op op_rep (pe_lst (pa_cons pe_int pa_nil)) (pv 2)) pa_nil)), fun D σ H ⟨l7, t8, d9, h10, s11, es, lb⟩ hn' => ?_⟩
  subst es
  refine ⟨by show 1 ≤ sizeLine; decide, fun pz hpz => ?_⟩
  have x2 : Ext H (upd H pz (.lst [.int 0])) := Ext.new hpz
  have t2 := lb.tabs.same (Same.new (o := .lst [.int 0]) hpz)
  refine ⟨.int (n : Nat), rfl, pz, _, _, rfl, rfl, upd_same, by omega, by omega, ?_, fun pr hpr => ?_⟩
  · simp only [List.length_cons, List.length_nil, Int.toNat_natCast]
    have := small1000 (n := n) (by omega)
    omega
  have erep : (List.replicate ((n : Nat) : Int).toNat [V.int 0]).flatten = (List.replicate n (0 : Int)).map V.int := by
    rw [Int.toNat_natCast, rep_flat, List.map_replicate]
  rw [erep]
  have x3 := x2.trans (Ext.new (o := .lst ((List.replicate n (0 : Int)).map V.int)) hpr)
  have t3 := t2.same (Same.new (o := .lst ((List.replicate n (0 : Int)).map V.int)) hpr)
  refine ⟨by show 1 ≤ sizeLine; decide, fun wa hwa => ?_⟩
  have npw : pr ≠ wa := fun z => by rw [← z, upd_same] at hwa; cases hwa
  exact hn' _ _ ⟨l7, t8, d9, h10, wa, _, rfl, lb.go (x3.trans (Ext.new hwa)) (t3.same (Same.new hwa)), upd_same, rfl, fun i y s e1 e2 => by
    cases i with
    | zero =>
      obtain rfl := Option.some.inj e1
      obtain rfl := Option.some.inj e2
      exact ⟨pr, rfl, by rw [upd_ne npw, upd_same]⟩
    | succ i => simp at e1⟩
end
end PM
namespace PM
open PySem PySem.Spec PyProof.Rows L2 GenW
theorem lstI_of {H : Hp} {v : V} {as : List Int} (h : LRel IntR H v as) : LstI H v as := by
  obtain ⟨p, vs, e, hp, r⟩ := h
  rw [rels_ints r] at hp
  exact ⟨p, e, hp⟩
/-- a whole number, the least of some -/
def MinR : Hp → V → List Int → Prop := fun _ v s => ∃ y, v = .int y ∧ IsMin s y
theorem MinR.st : ∀ H H' v x, MinR H v x → Ext H H' → MinR H' v x := fun _ _ _ _ h _ => h
theorem minR_ints {H : Hp} : ∀ {ys : List V} {ws : List (List Int)}, Rels MinR H ys ws → ∃ ns : List Int, ys = ns.map V.int ∧ ns.length = ws.length ∧ ∀ (i : Nat) (y : Int) (s : List Int), ns[i]? = some y → ws[i]? = some s → IsMin s y
  | [], [], _ => ⟨[], rfl, rfl, fun i y s h => by simp at h⟩
  | [], n :: ns, h => by have := h.1; simp at this
  | y :: ys, [], h => by have := h.1; simp at this
  | y :: ys, s :: ws, h => by
    obtain ⟨⟨z, e, hz⟩, h2⟩ := Rels.cons.mp h
    obtain ⟨ns, e2, l2, g⟩ := minR_ints h2
    refine ⟨z :: ns, by rw [e, e2]; rfl, by simp [l2], fun i y' s' a b => ?_⟩
    cases i with
    | zero =>
      obtain rfl := Option.some.inj a
      obtain rfl := Option.some.inj b
      exact hz
    | succ i => exact g i y' s' a b
theorem best_max {ws : List (List Int)} {ns : List Int} {b x : Int} (hl : ns.length = ws.length) (g : ∀ (i : Nat) (y : Int) (s : List Int), ns[i]? = some y → ws[i]? = some s → IsMin s y) (nn : ∀ s ∈ ws, ∀ x ∈ s, 0 ≤ x) (hb : Best ws b) (h1 : x ∈ ns) (h2 : ∀ y ∈ ns, y ≤ x) : b = x := by
  obtain ⟨i, hi⟩ := List.mem_iff_getElem?.mp h1
  have hil := (List.getElem?_eq_some_iff.mp hi).1
  have hw : ws[i]? = some ws[i] := List.getElem?_eq_getElem (by omega)
  have hm := g i x _ hi hw
  have hmem := List.mem_of_getElem? hw
  have hx0 := nn _ hmem x hm.1
  have hxb := hb.2.2 _ hmem x hm
  rcases hb.1 with hb0 | ⟨s, hs, hsm⟩
  · omega
  · obtain ⟨j, hj⟩ := List.mem_iff_getElem?.mp hs
    have hjl := (List.getElem?_eq_some_iff.mp hj).1
    have hn : ns[j]? = some ns[j] := List.getElem?_eq_getElem (by omega)
    have hm2 := g j _ s hn hj
    have e := least_unique hsm.1 hsm.2 hm2.1 hm2.2
    have := h2 _ (List.mem_of_getElem? hn)
    omega
section
variable {P : Program} {w : World} {K : PySem.W.Frag} {mg : Str → Option Value} {base : Heap} {f : Addr} {cdv : Value} {A : Around} {outer : List Env} {s : Shared} {H0 Hb : Hp} {E : XK} {T : List (Addr × Str)}
abbrev tCell (K : PySem.W.Frag) : TE := tOp (rI0 fun i j => .int (i + j)) (tOp (rIxL K) (tVar 20) (tVar 4)) (tIf (tTest (tOp rEq (tVar 4) (tVar 13))) (tVar 12) (tC (.int 0)))
theorem step12 {lv : Nat} (hr : Room lv (A.deeper (envOfC "law" (defScope sLaw) s.heap.objs.size f cdv))) (mr : mg "range" = none)
    {fF : Addr} {dF : FuncData} (FF : Fun K "_law_flat" "_law_flat" sLFlat fF dF) (bF : Binds K dF ["_law_rows"] []) (gF : mg "_law_flat" = some (.ref fF)) (GF : FnOk P w K mg base CX0 lv fF dF ["_law_rows"] (spLFlat K))
    {ra ob : Addr} {n m : Nat} (h0 : 0 < n) (hn : n ≤ 3) (hm : m ≤ 5) {R : List (List Int)} (ok : RowsOk R n m) {order : List Nat} {sc d mv k4 p13 t14 l15 d16 b17 : Option V} :
    Step (lX P w K mg base f cdv A outer s Hb E) (lawB 12) (fun σ H => ∃ (l7 t8 d9 h10 o12 : Option V) (sa : Addr) (ys : List V), σ = lS sc d (some (.int (n : Nat))) mv k4 (some (.ref ra)) (some (.ref ob)) l7 t8 d9 h10 (some (.ref sa)) o12 p13 t14 l15 d16 b17 ∧ LB K T H0 ra ob R order H ∧ H sa = some (.lst ys) ∧ Rels LstI H ys (waysN n []))
      (fun σ H => ∃ (l7 t8 d9 h10 o12 : Option V) (sa : Addr) (ys : List V), σ = lS sc d (some (.int (n : Nat))) mv k4 (some (.ref ra)) (some (.ref ob)) l7 t8 d9 h10 (some (.ref sa)) o12 p13 t14 l15 d16 b17 ∧ LB K T H0 ra ob R order H ∧ H sa = some (.lst ys) ∧ Rels LstI H ys (waysN n (R.getD 0 []))) := by
  refine ⟨_, ps_for PassesOwn.never rfl (pi_tup (pe_ix ix_list (pv 5) pe_int (fun _ _ => rfl))) (pg_name (i := 12) scLaw.nd rfl (.inr rfl))
    (pss_one (ps_set (i := 11) scLaw.nd rfl (Or.inl rfl) (pe_call GF hr (by rfl) gF FF.kp bF .nil pass0 (pa_cons
      (pe_lc (own := [("_law_row", 20)]) (g := gName 20) (tt := tYes) (te := tLc (iRng1 (tCons (tVar 2) tNil)) (gName 13) tYes (tLc (iRng1 (tCons (tVar 2) tNil)) (gName 4) tYes (tCell K) [4]) [13]) rfl scLaw.nd (pi_list (pv 11)) (blkOk_by (N := lawN) (sc := defScope sLaw) (by decide +kernel)) (fun _ _ _ _ _ => pg_name (i := 20) scLaw.nd rfl (Or.inr rfl)) (fun _ _ _ _ _ => pts_nil)
        (fun _ _ _ _ _ => pe_lc (own := [("_law_place", 13)]) (g := gName 13) (tt := tYes) (te := tLc (iRng1 (tCons (tVar 2) tNil)) (gName 4) tYes (tCell K) [4]) rfl scLaw.nd (pi_range1 (by rfl) mr (pa_cons (pv 2) pa_nil)) (blkOk_by (N := lawN) (by kernel_rfl)) (fun _ _ _ _ _ => pg_name (i := 13) scLaw.nd rfl (Or.inr rfl)) (fun _ _ _ _ _ => pts_nil)
          (fun _ _ _ _ _ => pe_lc (own := [("_law_k", 4)]) (g := gName 4) (tt := tYes) (te := tCell K) rfl scLaw.nd (pi_range1 (by rfl) mr (pa_cons (pv 2) pa_nil)) (blkOk_by (N := lawN) (by kernel_rfl)) (fun _ _ _ _ _ => pg_name (i := 4) scLaw.nd rfl (Or.inl rfl)) (fun _ _ _ _ _ => pts_nil)
            (fun _ _ _ _ _ => pe_op op_add (pe_ix ix_list (pv 20) (pv 4) (fun _ _ => rfl)) (pe_ifExp (pt_cmpR op_eq (pv 4) (pv 13) (nomark _)) (pv 12) pe_int))))) pa_nil)))), fun D σ H ⟨l7, t8, d9, h10, o12, sa, ys, es, lb, hsa, rs⟩ hn' => ?_⟩
  subst es
  have hR : R.length = n := ok.len
  have hR0 : 0 < R.length := by omega
  have hnn : ((n : Nat) : Int).toNat = n := Int.toNat_natCast n
  obtain ⟨r0, er0⟩ : ∃ r0, r0 = R.getD 0 [] := ⟨_, rfl⟩
  have er0' : r0 = R[0] := by rw [er0, getD_at hR0]
  have hrow := ok.row _ (List.getElem_mem hR0)
  rw [← er0'] at hrow
  refine ⟨.ref ra, rfl, tC_i (ix_lof (j := 0) (z := 0) lb.rows.t hR0 rfl fun v tv => ?_)⟩
  obtain ⟨p0, rfl, hp0⟩ := tv
  rw [← er0] at hp0
  refine ⟨p0, rfl, ⟨_, hp0⟩, for_tup (xs := r0.map V.int) (fun i σ Hc => ∃ (o12 : Option V) (sa : Addr) (ys : List V), σ = lS sc d (some (.int (n : Nat))) mv k4 (some (.ref ra)) (some (.ref ob)) l7 t8 d9 h10 (some (.ref sa)) o12 p13 t14 l15 d16 b17 ∧ Ext H Hc ∧ Tabs T Hc ∧ Hc sa = some (.lst ys) ∧ Rels LstI Hc ys (waysN n (r0.take i)))
    ⟨o12, sa, ys, rfl, Ext.refl _, lb.tabs, hsa, rs⟩ (fun i σ Hc _ ⟨_, _, _, _, xc, _⟩ => xc.seqT hp0) (fun i x σ Hc hx ⟨o12, sa, ys, es, xc, tc, wc, rc⟩ => ?_) (fun σ Hc ⟨o12, sa, ys, es, xc, tc, wc, rc⟩ => ?_)⟩
  · subst es
    have hi : i < r0.length := by
      have := (List.getElem?_eq_some_iff.mp hx).1
      simpa using this
    have ex' : x = .int r0[i] := by
      rw [List.getElem?_map, List.getElem?_eq_getElem hi] at hx
      exact (Option.some.inj hx).symm
    subst ex'
    have hyl : ys.length = (waysN n (r0.take i)).length := rc.1
    have wok := waysN_ok (n := n) (row := r0.take i) fun x hx => (hrow.2 x (List.mem_of_mem_take hx)).1
    have hyl3 : ys.length ≤ 1000 := by
      rw [hyl]
      exact waysN_len hn (by rw [List.length_take]; omega)
    have esn : waysN n (r0.take (i + 1)) = ((List.range ys.length).map fun j => (List.range n).map fun p => putOn ((waysN n (r0.take i)).getD j []) p r0[i]).flatten := by
      rw [List.take_add_one, List.getElem?_eq_getElem hi]
      show waysN n (r0.take i ++ [r0[i]]) = _
      rw [waysN_snoc, hyl, ← flatMap_range [] (fun s => (List.range n).map fun p => putOn s p r0[i])]
      rfl
    refine ⟨.ref sa, rfl, sa, rfl, ⟨_, SqL.of wc⟩, fun D1 hD1 => lc_gen (T := T) (Rel := LRel LstI) (walk_list (K := K) (a := sa) (xs := ys)) (LRel.st LstI.st) (fun j => some ((List.range n).map fun p => putOn ((waysN n (r0.take i)).getD j []) p r0[i])) hyl3 tc hD1 (fun H5 x5 => SqL.of (x5.lst wc)) (fun j x H5 H' acc Qt Qf hj x5 t5 d5 y hq _ => ?_) (fun H5 ys5 x5 t5 d5 r5 => ?_)⟩
    · obtain ⟨rfl, hx2⟩ := y
      have hjw : j < (waysN n (r0.take i)).length := by omega
      obtain ⟨ps, rfl, hps⟩ := rc.2 j x _ hx2 (List.getElem?_eq_getElem hjw)
      have eg : (waysN n (r0.take i)).getD j [] = (waysN n (r0.take i))[j] := by simp [hjw]
      obtain ⟨wl, _⟩ := wok _ (List.getElem_mem hjw)
      obtain ⟨s0, es0⟩ : ∃ s0, s0 = (waysN n (r0.take i))[j] := ⟨_, rfl⟩
      rw [eg, ← es0] at hq
      rw [← es0] at wl hps
      refine ⟨rfl, .int (n : Nat), rfl, (n : Nat), rfl, by omega, by omega, fun D2 hD2 => ?_⟩
      rw [hnn]
      refine lc_gen (T := T) (Rel := fun H v a => LstI (del H D1) v a) walk_range (fun _ _ _ _ h e => LstI.st _ _ _ _ h (del_ext e)) (fun p => some (putOn s0 p r0[i])) (by omega) t5 hD2 (fun _ _ => trivial) (fun p x H6 H6' acc2 Qt2 Qf2 hp x6 t6 d6 y hq2 _ => ?_) (fun H6 ys6 x6 t6 d6 r6 => ?_)
      · obtain ⟨rfl, rfl⟩ := y
        refine ⟨rfl, .int (n : Nat), rfl, (n : Nat), rfl, by omega, by omega, fun D3 hD3 => ?_⟩
        rw [hnn]
        refine lc_gen (T := T) (Rel := IntR) walk_range IntR.st (fun k => some (s0.getD k 0 + (if k = p then r0[i] else 0))) (by omega) t6 hD3 (fun _ _ => trivial) (fun k x H7 H7' acc3 Qt3 Qf3 hk x7 t7 d7 y hq3 _ => ?_) (fun H7 ys7 x7 t7 d7 r7 => ?_)
        · obtain ⟨rfl, rfl⟩ := y
          have hk' : s0[k]? = some (s0.getD k 0) := by simp [show k < s0.length by omega]
          have hps7 := ((x5.trans x6).trans x7).lst hps
          refine ⟨rfl, .ref ps, rfl, .int (0 + (k : Nat)), rfl, ps, _, _, .int (s0.getD k 0), rfl, rfl, SqL.of hps7, ?_, .int (0 + (k : Nat)), rfl, .int (0 + (p : Nat)), rfl, rfl, _, rfl, ?_⟩
          · rw [Int.zero_add]
            exact atI_nat (by rw [List.getElem?_map, hk']; rfl)
          · refine ite2 (fun h => ?_) (fun h => ?_)
            · have h := of_decide_eq_true h
              have hkp : k = p := by
                injection h with h
                omega
              refine ⟨_, rfl, _, _, rfl, rfl, hq3 _ _ _ rfl (Ext.refl _) t7 ?_⟩
              rw [if_pos hkp]
              rfl
            · have hkp : ¬ k = p := fun z => h (by rw [z]; exact decide_eq_true rfl)
              refine tC_i ⟨_, _, rfl, rfl, hq3 _ _ _ rfl (Ext.refl _) t7 ?_⟩
              rw [if_neg hkp]
              rfl
        · rw [filterMap_some, put_range wl hp] at r7
          have eys := rels_ints r7
          subst eys
          exact hq2 _ _ _ rfl x7 t7 ⟨D3, rfl, del_new (x6.lst d5) hD3 (del_new d6 hD3 d7)⟩
      · rw [filterMap_some] at r6
        exact hq _ _ _ rfl x6 t6 ⟨D2, ys6, rfl, del_new d5 hD2 d6, r6.1, fun i' y a p q => LstI.st _ _ _ _ (r6.2 i' y a p q) (del_ext del_sub)⟩
    · rw [filterMap_some] at r5
      obtain ⟨xss, q1, q2⟩ := rels_flat (r5.ext (LRel.st LstI.st) del_sub)
      rw [← esn] at q2
      have hl : xss.flatten.length ≤ 100000 := by
        rw [q2.1]
        have := waysN_len (n := n) (row := r0.take (i + 1)) hn (by rw [List.length_take]; omega)
        omega
      exact ⟨D1, ys5, xss, rfl, SqL.of d5, q1, hl, fun H' p np sm hp => ⟨_, p, _, rfl, (xc.trans x5).trans (Ext.of sm), t5.same sm, hp, q2.ext LstI.st (Ext.of sm)⟩⟩
  · subst es
    rw [List.take_of_length_le (by simp), er0] at rc
    exact hn' _ _ ⟨l7, t8, d9, h10, o12, sa, ys, rfl, lb.go xc tc, wc, rc⟩
theorem step13 {C : Addr} {lv : Nat} (hr : Room lv (A.deeper (envOfC "law" (defScope sLaw) s.heap.objs.size f cdv))) (mm : mg "min" = none) (mx' : mg "max" = none)
    {fF : Addr} {dF : FuncData} (FF : Fun K "fair_part" "fair_part" sFair fF dF) (bF : Binds K dF ["rows", "one"] []) (gF : mg "fair_part" = some (.ref fF)) (GF : FnOk P w K mg base (L2.CX P w) lv fF dF ["rows", "one"] (spFair K T C))
    {ra ob : Addr} {n m : Nat} (h0 : 0 < n) (hn : n ≤ 3) (hm : m ≤ 5) {R : List (List Int)} (ok : RowsOk R n m) {order : List Nat} {sc d mv k4 p13 t14 l15 d16 b17 : Option V} :
    Step (lX P w K mg base f cdv A outer s Hb E) (lawB 13) (fun σ H => ∃ (l7 t8 d9 h10 o12 : Option V) (sa : Addr) (ys : List V), σ = lS sc d (some (.int (n : Nat))) mv k4 (some (.ref ra)) (some (.ref ob)) l7 t8 d9 h10 (some (.ref sa)) o12 p13 t14 l15 d16 b17 ∧ LB K T H0 ra ob R order H ∧ H sa = some (.lst ys) ∧ Rels LstI H ys (waysN n (R.getD 0 [])))
      (fun σ H => ∃ (l7 t8 d9 h10 s11 o12 : Option V), σ = lS sc d (some (.int (n : Nat))) mv k4 (some (.ref ra)) (some (.ref ob)) l7 t8 d9 h10 s11 o12 p13 t14 l15 d16 b17 ∧ LB K T H0 ra ob R order H) := by
  refine ⟨_, ps_if (pt_cmpR op_ne (pe_call GF hr (by rfl) gF FF.kp bF .nil (E := E0) passL (pa_cons (pv 5) (pa_cons pe_int pa_nil)))
      (pe_callB (cr_max rfl) (by rfl) mx' (by decide +kernel) (pa_cons (pe_lc (own := [("_law_row", 20)]) (g := gName 20) (tt := tYes) (te := tCB (rMin K) (tCons (tVar 20) tNil)) rfl scLaw.nd (pi_list (pv 11)) (blkOk_by (N := lawN) (sc := defScope sLaw) (by decide +kernel)) (fun _ _ _ _ _ => pg_name (i := 20) scLaw.nd rfl (Or.inl rfl)) (fun _ _ _ _ _ => pts_nil)
        (fun _ _ _ _ _ => pe_callB (cr_min rfl) (by rfl) mm (by decide +kernel) (pa_cons (pv 20) pa_nil))) pa_nil)) (nomark _)) (pss_one (ps_ret pe_bl)) pss_nil, fun D σ H ⟨l7, t8, d9, h10, o12, sa, ys, es, lb, hsa, rs⟩ hn' => ?_⟩
  subst es
  have hR : R.length = n := ok.len
  have hR0 : 0 < R.length := by omega
  obtain ⟨r0, er0⟩ : ∃ r0, r0 = R.getD 0 [] := ⟨_, rfl⟩
  have er0' : r0 = R[0] := by rw [er0, getD_at hR0]
  have hrow := ok.row _ (List.getElem_mem hR0)
  rw [← er0'] at hrow
  rw [← er0] at rs
  have wok := waysN_ok (n := n) (row := r0) fun x hx => (hrow.2 x hx).1
  have wl := waysN_len (n := n) (row := r0) hn (by omega)
  refine ⟨.ref ra, rfl, ra, R, r0, rfl, lb.rows.t, by rw [er0']; exact List.getElem?_eq_getElem hR0, by omega, by omega, lb.tabs, .inl ⟨by omega, by omega, fun x hx => (hrow.2 x hx).1, fun b H1 hb x1 t1 => ?_⟩⟩
  rw [hR] at hb
  have hyl : ys.length = (waysN n r0).length := rs.1
  refine ⟨.ref sa, rfl, sa, rfl, ⟨_, SqL.of (x1.lst hsa)⟩, fun D1 hD1 => lc_gen (T := T) (Rel := MinR) (walk_list (K := K) (a := sa) (xs := ys)) MinR.st (fun j => some ((waysN n r0).getD j [])) (by omega) t1 hD1 (fun H5 x5 => SqL.of ((x1.trans x5).lst hsa)) (fun j x H5 H' acc Qt Qf hj x5 t5 d5 y hq _ => ?_) (fun H5 ys5 x5 t5 d5 r5 => ?_)⟩
  · obtain ⟨rfl, hx2⟩ := y
    have hjw : j < (waysN n r0).length := by omega
    obtain ⟨ps, rfl, hps⟩ := rs.2 j x _ hx2 (List.getElem?_eq_getElem hjw)
    have eg : (waysN n r0).getD j [] = (waysN n r0)[j] := by simp [hjw]
    obtain ⟨sl, _⟩ := wok _ (List.getElem_mem hjw)
    exact ⟨rfl, .ref ps, rfl, ps, _, rfl, SqL.of ((x1.trans x5).lst hps), by omega, fun mn m1 m2 => hq _ _ _ rfl (Ext.refl _) t5 ⟨mn, rfl, by rw [eg]; exact ⟨m1, m2⟩⟩⟩
  · rw [filterMap_some, hyl] at r5
    have e : (List.range (waysN n r0).length).map (fun i => (waysN n r0).getD i []) = waysN n r0 := by
      apply List.ext_getElem
      · simp
      · intro i h1 h2
        simp [h2]
    rw [e] at r5
    obtain ⟨ns, eys, nl, g⟩ := minR_ints r5
    subst eys
    have hne : 0 < ns.length := by
      rw [nl]
      exact List.length_pos_iff.mpr (waysN_ne h0 r0)
    refine ⟨D1, ns, rfl, SqL.of d5, hne, fun x m1 m2 => ⟨rfl, _, rfl, neI (best_max nl g (fun s hs => (wok s hs).2) hb m1 m2) (hn' _ _ ⟨l7, t8, d9, h10, _, o12, rfl, lb.go (x1.trans x5) t5⟩)⟩⟩
end
end PM
namespace PM
open PySem PySem.Spec PyProof.Rows L2 GenW
theorem lots_new {K : PySem.W.Frag} {T : List (Addr × Str)} {H0 H : Hp} {Q : VK} {n : Nat} (hn : n ≤ 3) {sc d m k4 c5 o6 l7 t8 d9 h10 s11 o12 p13 t14 l15 d16 b17 : Option V} (x0 : Ext H0 H) (t0 : Tabs T H)
    (q : ∀ (D1 : Addr) (ps : List Addr) (H2 : Hp), Ext H H2 → Tabs T H2 → Lots H0 H2 D1 ps (List.replicate n []) → (∀ p ∈ D1 :: ps, Fr H p) → Q (.ref D1) H2) :
    tLc (iRng1 (tCons (tVar 2) tNil)) (gName 4) tYes (tLst tNil) [4] (lS sc d (some (.int (n : Nat))) m k4 c5 o6 l7 t8 d9 h10 s11 o12 p13 t14 l15 d16 b17) H Q := by
  have hnn : ((n : Nat) : Int).toNat = n := Int.toNat_natCast n
  refine ⟨.int (n : Nat), rfl, (n : Nat), rfl, by omega, by omega, fun D1 hD1 => ?_⟩
  rw [hnn]
  have fD := fr_of x0 hD1
  refine lc_range (lo := 0) (n := n) (fun i H2 => ∃ ps, Ext H H2 ∧ Tabs T H2 ∧ Lots H0 H2 D1 ps (List.replicate i []) ∧ ∀ p ∈ D1 :: ps, Fr H p)
    ⟨[], Ext.new hD1, t0.same (Same.new hD1), ⟨upd_same, by simp, rfl, fun i p l a => by simp at a, fun p hp => by
      have : p = D1 := by simpa using hp
      rw [this]
      exact fD⟩, fun p hp => by
      have : p = D1 := by simpa using hp
      rw [this]
      exact fr_of (Ext.refl H) hD1⟩ (fun i H2 hi ⟨ps, x2, t2, lo, no⟩ => ?_) (fun H2 ⟨ps, x2, t2, lo, no⟩ => q D1 ps H2 x2 t2 lo no)
  refine ⟨rfl, Nat.zero_le _, fun p hp => ?_⟩
  have x3 : Ext H2 (upd H2 p (.lst [])) := Ext.new hp
  have l3 := x3.lst lo.lst
  have hpD : p ≠ D1 := fun z => by rw [z, lo.lst] at hp; cases hp
  have hpl : ps.length = i := by rw [lo.len, List.length_replicate]
  have hpn : p ∉ ps := fun z => by
    obtain ⟨j, hj⟩ := List.mem_iff_getElem?.mp z
    have hjl := (List.getElem?_eq_some_iff.mp hj).1
    have := lo.each j p [] hj (by rw [List.getElem?_replicate]; rw [if_pos (by omega)])
    rw [hp] at this
    cases this
  have hnd := List.nodup_cons.mp lo.nd
  refine ⟨ps.map V.ref, l3, by rw [List.length_map, hpl]; exact small1000 (by omega), ps ++ [p], ?_, (t2.same (Same.new hp)).lst l3, ⟨by rw [upd_same, List.map_append]; rfl, ?_, by simp [hpl], fun j q l a b => ?_, ?_⟩, ?_⟩
  · exact ext_writeF (x2.trans x3) fun o e => by rw [hD1] at e; cases e
  · refine List.nodup_cons.mpr ⟨fun z => ?_, ?_⟩
    · rcases List.mem_append.mp z with z | z
      · exact hnd.1 z
      · have : D1 = p := by simpa using z
        exact hpD this.symm
    · rw [List.nodup_append]
      refine ⟨hnd.2, by simp, fun a ha b hb => ?_⟩
      have : b = p := by simpa using hb
      rw [this]
      intro z
      exact hpn (by rw [← z]; exact ha)
  · have bl : l = [] := by
      rw [List.getElem?_replicate] at b
      split at b
      · exact (Option.some.inj b).symm
      · cases b
    subst bl
    by_cases hj : j < ps.length
    · rw [List.getElem?_append_left hj] at a
      have e := lo.each j q [] a (by rw [List.getElem?_replicate]; rw [if_pos (by omega)])
      rw [upd_ne (fun z => hnd.1 (by rw [← z]; exact List.mem_of_getElem? a))]
      exact x3.lst e
    · have hl : j < (ps ++ [p]).length := (List.getElem?_eq_some_iff.mp a).1
      have e : j = ps.length := by simp at hl; omega
      rw [e, List.getElem?_concat_length] at a
      obtain rfl := Option.some.inj a
      rw [upd_ne hpD, upd_same]
      rfl
  · intro q hq
    rcases List.mem_cons.mp hq with rfl | hq
    · exact fD
    · rcases List.mem_append.mp hq with hq | hq
      · exact lo.fr _ (List.mem_cons_of_mem _ hq)
      · have : q = p := by simpa using hq
        rw [this]
        exact fr_of (x0.trans x2) hp
  · intro q hq
    rcases List.mem_cons.mp hq with rfl | hq
    · exact fr_of (Ext.refl H) hD1
    · rcases List.mem_append.mp hq with hq | hq
      · exact no _ (List.mem_cons_of_mem _ hq)
      · have : q = p := by simpa using hq
        rw [this]
        exact fr_of x2 hp
section
variable {P : Program} {w : World} {K : PySem.W.Frag} {mg : Str → Option Value} {base : Heap} {f : Addr} {cdv : Value} {A : Around} {outer : List Env} {s : Shared} {H0 Hb : Hp} {E : XK} {T : List (Addr × Str)}
theorem step14 {lv : Nat} (hr : Room lv (A.deeper (envOfC "law" (defScope sLaw) s.heap.objs.size f cdv)))
    {fR : Addr} {dR : FuncData} (FR : Fun K "in_rounds" "in_rounds" sRounds fR dR) (bR : Binds K dR ["rows", "order"] []) (gR : mg "in_rounds" = some (.ref fR)) (GR : FnOk P w K mg base CX0 lv fR dR ["rows", "order"] (spRounds K T))
    {ra ob : Addr} {n m : Nat} (h0 : 0 < n) (hn : n ≤ 3) (hm : m ≤ 5) {R : List (List Int)} (ok : RowsOk R n m) {sc d nv mv k4 p13 l15 d16 b17 : Option V} :
    Step (lX P w K mg base f cdv A outer s Hb E) (lawB 14) (fun σ H => ∃ (l7 t8 d9 h10 s11 o12 t14 : Option V), σ = lS sc d nv mv k4 (some (.ref ra)) (some (.ref ob)) l7 t8 d9 h10 s11 o12 p13 t14 l15 d16 b17 ∧ LB K T H0 ra ob R (lawOrder n) H)
      (fun σ H => ∃ (l7 t8 d9 h10 s11 o12 : Option V) (tu : Addr) (Ls : List (List Int)), σ = lS sc d nv mv k4 (some (.ref ra)) (some (.ref ob)) l7 t8 d9 h10 s11 o12 p13 (some (.ref tu)) l15 d16 b17 ∧ LB K T H0 ra ob R (lawOrder n) H ∧ TofT K H tu Ls ∧ Given R Ls n m ∧ Reord (stp R (lawOrder n) m m).2 Ls) := by
  refine ⟨_, ps_set (i := 14) scLaw.nd rfl (Or.inl rfl) (pe_call GR hr (by rfl) gR FR.kp bR .nil pass0 (pa_cons (pv 5) (pa_cons (pv 6) pa_nil))), fun D σ H ⟨l7, t8, d9, h10, s11, o12, t14, es, lb⟩ hn' => ?_⟩
  subst es
  exact ⟨.ref ra, rfl, .ref ob, rfl, ra, ob, R, lawOrder n, n, m, rfl, lb.rows.t, SqL.of lb.ord, h0, by omega, by omega, ok, order_ok h0 hn, lb.tabs, fun Ls H2 p2 g2 re2 f2 x2 t2 w2 =>
    hn' _ _ ⟨l7, t8, d9, h10, s11, o12, p2, Ls, rfl, lb.go x2 t2, w2, g2, re2⟩⟩
theorem step15 (mr : mg "range" = none) (mli : mg "list" = none) {ra ob : Addr} {n m : Nat} (hm : m ≤ 5) {R : List (List Int)} {sc d nv k4 d16 b17 : Option V} :
    Step (lX P w K mg base f cdv A outer s Hb E) (lawB 15) (fun σ H => ∃ (l7 t8 d9 h10 s11 o12 p13 l15 : Option V) (tu : Addr) (Ls : List (List Int)), σ = lS sc d nv (some (.int (m : Nat))) k4 (some (.ref ra)) (some (.ref ob)) l7 t8 d9 h10 s11 o12 p13 (some (.ref tu)) l15 d16 b17 ∧ LB K T H0 ra ob R (lawOrder n) H ∧ TofT K H tu Ls ∧ Given R Ls n m ∧ Reord (stp R (lawOrder n) m m).2 Ls)
      (fun σ H => ∃ (l7 t8 d9 h10 s11 o12 : Option V) (tu lf : Addr) (Ls : List (List Int)), σ = lS sc d nv (some (.int (m : Nat))) k4 (some (.ref ra)) (some (.ref ob)) l7 t8 d9 h10 s11 o12 (some (.int 0)) (some (.ref tu)) (some (.ref lf)) d16 b17 ∧ LB K T H0 ra ob R (lawOrder n) H ∧ TofT K H tu Ls ∧ Given R Ls n m ∧ Reord (stp R (lawOrder n) m m).2 Ls ∧
        H lf = some (.lst ((upto m).map V.int)) ∧ Fr H0 lf ∧ ra ≠ lf ∧ ob ≠ lf) := by
  refine ⟨_, ps_asg (pe_tup (pa_cons (pe_listRg rfl (by rfl) mli (prg_1 (by rfl) mr (pv 3))) (pa_cons pe_int pa_nil))) (pg_tup rfl (pgs_cons (pg_name (i := 15) scLaw.nd rfl (.inr rfl)) (pgs_cons (pg_name (i := 13) scLaw.nd rfl (.inl rfl)) pgs_nil))), fun D σ H ⟨l7, t8, d9, h10, s11, o12, p13, l15, tu, Ls, es, lb, wt, g, re⟩ hn' => ?_⟩
  subst es
  refine ⟨.int (m : Nat), rfl, _, rfl, RgOk.of_le (by omega) (by omega) (by omega) (by omega), fun lf hlf => ?_⟩
  rw [rgV_upto]
  have x1 : Ext H (upd H lf (.lst ((upto m).map V.int))) := Ext.new hlf
  refine ⟨by show 2 ≤ sizeLine; decide, fun pt hpt => ?_⟩
  have x2 := x1.trans (Ext.new (o := .tup [.ref lf, .int 0]) hpt)
  refine ⟨pt, _, rfl, .inl (.inl upd_same), rfl, .ref lf, [.int 0], rfl, .int 0, [], rfl, rfl, ?_⟩
  exact hn' _ _ ⟨l7, t8, d9, h10, s11, o12, tu, lf, Ls, rfl, lb.go x2 ((lb.tabs.same (Same.new hlf)).same (Same.new hpt)), wt.extT x2, g, re, (Ext.new (o := .tup [.ref lf, .int 0]) hpt).lst upd_same, fr_of lb.ext hlf, lb.rows.ne hlf, lst_ne lb.ord hlf⟩
theorem step16 (mr : mg "range" = none) {ra ob : Addr} {n m : Nat} (hn : n ≤ 3) {R : List (List Int)} {sc d mv k4 b17 : Option V} :
    Step (lX P w K mg base f cdv A outer s Hb E) (lawB 16) (fun σ H => ∃ (l7 t8 d9 h10 s11 o12 d16 : Option V) (tu lf : Addr) (Ls : List (List Int)), σ = lS sc d (some (.int (n : Nat))) mv k4 (some (.ref ra)) (some (.ref ob)) l7 t8 d9 h10 s11 o12 (some (.int 0)) (some (.ref tu)) (some (.ref lf)) d16 b17 ∧ LB K T H0 ra ob R (lawOrder n) H ∧ TofT K H tu Ls ∧ Given R Ls n m ∧ Reord (stp R (lawOrder n) m m).2 Ls ∧
        H lf = some (.lst ((upto m).map V.int)) ∧ Fr H0 lf ∧ ra ≠ lf ∧ ob ≠ lf)
      (fun σ H => ∃ (l7 t8 d9 h10 s11 o12 : Option V) (tu lf du : Addr) (ps : List Addr) (Ls : List (List Int)), σ = lS sc d (some (.int (n : Nat))) mv k4 (some (.ref ra)) (some (.ref ob)) l7 t8 d9 h10 s11 o12 (some (.int 0)) (some (.ref tu)) (some (.ref lf)) (some (.ref du)) b17 ∧ LB K T H0 ra ob R (lawOrder n) H ∧ TofT K H tu Ls ∧ Given R Ls n m ∧ Reord (stp R (lawOrder n) m m).2 Ls ∧
        H lf = some (.lst ((upto m).map V.int)) ∧ Fr H0 lf ∧ ra ≠ lf ∧ ob ≠ lf ∧ Lots H0 H du ps (List.replicate n []) ∧ lf ∉ du :: ps ∧ ra ∉ du :: ps ∧ ob ∉ du :: ps) := by
  refine ⟨_, ps_setLc (i := 16) (own := [("_law_k", 4)]) (g := gName 4) (tt := tYes) (te := tLst tNil) rfl scLaw.nd rfl rfl (sw_true rfl rfl rfl (by decide +kernel)) (pi_range1 (by rfl) mr (pa_cons (pv 2) pa_nil)) (blkOk_by (N := lawN) (sc := defScope sLaw) (by decide +kernel)) (fun _ _ _ _ _ => pg_name (i := 4) scLaw.nd rfl (Or.inl rfl)) (fun _ _ _ _ _ => pts_nil)
      (fun _ _ _ _ _ => pe_lst pa_nil), fun D σ H ⟨l7, t8, d9, h10, s11, o12, d16, tu, lf, Ls, es, lb, wt, g, re, hlf, flf, n1, n2⟩ hn' => ?_⟩
  subst es
  have key := lots_new (K := K) (T := T) (H0 := H0) (H := H) (n := n) (Q := fun v H1 => gName 16 v (lS sc d (some (.int (n : Nat))) mv k4 (some (.ref ra)) (some (.ref ob)) l7 t8 d9 h10 s11 o12 (some (.int 0)) (some (.ref tu)) (some (.ref lf)) d16 b17) H1 D.nx) hn (sc := sc) (d := d) (m := mv) (k4 := k4) (c5 := some (.ref ra)) (o6 := some (.ref ob)) (l7 := l7) (t8 := t8) (d9 := d9) (h10 := h10) (s11 := s11) (o12 := o12) (p13 := some (.int 0)) (t14 := some (.ref tu)) (l15 := some (.ref lf)) (d16 := d16) (b17 := b17) lb.ext lb.tabs (fun D1 ps H2 x2 t2 lo no =>
    hn' _ _ ⟨l7, t8, d9, h10, s11, o12, tu, lf, D1, ps, Ls, rfl, lb.go x2 t2, wt.extT x2, g, re, x2.lst hlf, flf, n1, n2, lo, fun z => (no _ z).not_lst hlf, fun z => by
      obtain ⟨_, e, _⟩ := lb.rows
      exact (no _ z).not_lst e, fun z => (no _ z).not_lst lb.ord⟩)
  exact key
end
end PM
namespace PM
open PySem PySem.Spec PyProof.Rows L2 GenW
theorem fm_range (f : Int → Option Int) (l : List Int) : (List.range l.length).filterMap (fun i => f (l.getD i 0)) = l.filterMap f := by
  have : (List.range l.length).map (fun i => l.getD i 0) = l := by
    apply List.ext_getElem
    · simp
    · intro i h1 h2
      simp [h2]
  conv => rhs; rw [← this]
  rw [List.filterMap_map]
  rfl
theorem fm_filter (c : Int → Prop) [DecidablePred c] (l : List Int) : l.filterMap (fun t => if c t then some t else none) = l.filter fun t => decide (c t) := by
  induction l with
  | nil => rfl
  | cons a l ih =>
    rw [List.filterMap_cons, List.filter_cons]
    by_cases h : c a
    · simp [h, ih]
    · simp [h, ih]
theorem pick_head {r left : List Int} (h : left ≠ []) : ∃ xs, (left.filter fun t => decide (at0 r t = mx (left.map (at0 r)))) = pick r left :: xs := by
  have hne : left.map (at0 r) ≠ [] := fun z => h (List.map_eq_nil_iff.mp z)
  obtain ⟨m1, m2⟩ := mx_mem hne
  obtain ⟨t0, ht0, et0⟩ := List.mem_map.mp m1
  have hmem : t0 ∈ left.filter fun t => decide (at0 r t = mx (left.map (at0 r))) := List.mem_filter.mpr ⟨ht0, decide_eq_true et0⟩
  unfold pick
  cases hfl : left.filter fun t => decide (at0 r t = mx (left.map (at0 r))) with
  | nil => rw [hfl] at hmem; exact absurd hmem (by simp)
  | cons x xs => exact ⟨xs, rfl⟩
theorem SameBut.tofT {K : PySem.W.Frag} {H H' : Hp} {d a : Addr} {ys : List V} {R : List (List Int)} (e : SameBut d H H') (hd : H d = some (.lst ys)) (h : TofT K H a R) : TofT K H' a R := by
  obtain ⟨vs, h1, h2⟩ := h
  exact ⟨vs, e.seqT hd h1, e.tups hd h2⟩
theorem LofH.get {K : PySem.W.Frag} {H : Hp} {a : Addr} {R : List (List Int)} {j : Nat} (h : LofH K H a R) (hj : j < R.length) : ∃ p, TupI K H (.ref p) (R.getD j []) ∧ ∀ (H' : Hp) (Q : VK) (z : Int), Ext H H' → z = (j : Nat) → Q (.ref p) H' → rIxL K (.ref a) (.int z) H' Q := by
  obtain ⟨vs, h1, h2⟩ := h
  obtain ⟨v, e, p, rfl, t⟩ := h2.get hj
  rw [← getD_at hj] at t
  exact ⟨p, ⟨p, rfl, t⟩, fun H' Q z x ez q => ⟨a, vs, z, .ref p, rfl, rfl, SqL.of (x.lst h1), by rw [ez]; exact atI_nat e, q⟩⟩
theorem seq_asg_op {i : Nat} {x0 : V} {σ : L2.St} {H : Hp} {ta tb : TE} {r : R2} {g : TG} {u : TS} {D D' : Ends} (h : ta (σ.set i (some x0)) H fun x H1 => tb (σ.set i (some x0)) H1 fun y H2 => r x y H2 fun v H3 => g v (σ.set i (some x0)) H3 (u D)) : gName i x0 σ H (Ends.nx { D' with nx := tSeq (tAsg (tOp r ta tb) g) u D }) := h
section
variable {P : Program} {w : World} {K : PySem.W.Frag} {mg : Str → Option Value} {base : Heap} {f : Addr} {cdv : Value} {A : Around} {outer : List Env} {s : Shared} {H0 Hb : Hp} {E : XK} {T : List (Addr × Str)}
abbrev tBest (K : PySem.W.Frag) : TT := tTest (tOp rEq (tOp (rIxT K) (tOp (rIxL K) (tVar 5) (tVar 4)) (tVar 8)) (tCB (rMax K) (tCons (tLc (iList K (tVar 15)) (gName 21) tYes (tOp (rIxT K) (tOp (rIxL K) (tVar 5) (tVar 4)) (tVar 21)) [21]) tNil)))
/-- the things left that are worth the most -/
theorem best_of {ra lf pr : Addr} {k1 : Nat} {r left : List Int} {m : Nat} {H : Hp} {Q : VK} {sc d nv mv o6 l7 t8 d9 h10 s11 o12 p13 t14 d16 b17 : Option V} (t0 : Tabs T H) (hr0 : TupI K H (.ref pr) r)
    (hix : ∀ (H' : Hp) (Q : VK) (z : Int), Ext H H' → z = (k1 : Nat) → Q (.ref pr) H' → rIxL K (.ref ra) (.int z) H' Q) (hlf : H lf = some (.lst (left.map V.int))) (hne : left ≠ []) (hl : left.length ≤ 1000) (hlen : r.length = m) (hin : ∀ t ∈ left, 0 ≤ t ∧ t < m)
    (q : ∀ (D1 : Addr) (xs : List Int) (H' : Hp), Ext H H' → Tabs T H' → H' D1 = some (.lst ((pick r left :: xs).map V.int)) → Q (.ref D1) H') :
    tLc (iList K (tVar 15)) (gName 8) (tBest K) (tVar 8) [8] (lS sc d nv mv (some (.int (k1 : Nat))) (some (.ref ra)) o6 l7 t8 d9 h10 s11 o12 p13 t14 (some (.ref lf)) d16 b17) H Q := by
  obtain ⟨_, e, hpr⟩ := hr0
  obtain rfl : pr = _ := by injection e
  have wl := walk_list (K := K) (a := lf) (xs := left.map V.int)
  rw [List.length_map] at wl
  refine ⟨.ref lf, rfl, lf, rfl, ⟨_, SqL.of hlf⟩, fun D1 hD1 => lc_gen (T := T) (Rel := IntR) wl IntR.st (fun i => (fun t => if at0 r t = mx (left.map (at0 r)) then some t else none) (left.getD i 0)) hl t0 hD1 (fun H5 x5 => SqL.of (x5.lst hlf)) (fun i x H5 H' acc Qt Qf hi x5 t5 d5 y hq hf => ?_) (fun H5 ys5 x5 t5 d5 r5 => ?_)⟩
  · obtain ⟨rfl, hx⟩ := y
    rw [List.getElem?_map, List.getElem?_eq_getElem hi] at hx
    obtain rfl := Option.some.inj hx
    obtain ⟨b0, b1⟩ := hin left[i] (List.getElem_mem hi)
    have eg : left.getD i 0 = left[i] := by simp [hi]
    rw [eg] at hq hf
    refine ⟨rfl, .ref ra, rfl, .int (k1 : Nat), rfl, hix _ _ _ x5 rfl ⟨.int left[i], rfl, pr, _, left[i], _, rfl, rfl, x5.seqT hpr, atI_at0 b0 (by rw [hlen]; exact b1), ?_⟩⟩
    refine ⟨.ref lf, rfl, lf, rfl, ⟨_, SqL.of (x5.lst hlf)⟩, fun D2 hD2 => lc_gen (T := T) (Rel := IntR) wl IntR.st (fun j => some (at0 r (left.getD j 0))) hl t5 hD2 (fun H6 x6 => SqL.of ((x5.trans x6).lst hlf)) (fun j x H6 H6' acc2 Qt2 Qf2 hj x6 t6 d6 y hq2 _ => ?_) (fun H6 ys6 x6 t6 d6 r6 => ?_)⟩
    · obtain ⟨rfl, hx⟩ := y
      rw [List.getElem?_map, List.getElem?_eq_getElem hj] at hx
      obtain rfl := Option.some.inj hx
      obtain ⟨c0, c1⟩ := hin left[j] (List.getElem_mem hj)
      have eg : left.getD j 0 = left[j] := by simp [hj]
      rw [eg] at hq2
      exact ⟨rfl, .ref ra, rfl, .int (k1 : Nat), rfl, hix _ _ _ (x5.trans x6) rfl ⟨.int left[j], rfl, pr, _, left[j], _, rfl, rfl, (x5.trans x6).seqT hpr, atI_at0 c0 (by rw [hlen]; exact c1), hq2 _ _ _ rfl (Ext.refl _) t6 rfl⟩⟩
    · rw [filterMap_some, map_at0 (at0 r)] at r6
      have eys := rels_ints r6
      subst eys
      refine ⟨D2, left.map (at0 r), rfl, SqL.of d6, by rw [List.length_map]; exact List.length_pos_iff.mpr hne, fun M m1 m2 => ⟨rfl, _, rfl, ?_⟩⟩
      have hM : M = mx (left.map (at0 r)) := by
        obtain ⟨n1, n2⟩ := mx_mem (l := left.map (at0 r)) (fun z => hne (List.map_eq_nil_iff.mp z))
        have := n2 M m1
        have := m2 _ n1
        omega
      refine ite2 (fun h => ?_) (fun h => ?_)
      · have h := of_decide_eq_true h
        injection h with h
        exact ⟨_, rfl, hq _ _ left[i] (if_pos (by rw [h, hM])) x6 t6 rfl⟩
      · exact hf _ (if_neg fun z => h (decide_eq_true (by rw [z, hM]))) x6 t6
  · rw [fm_range (fun t => if at0 r t = mx (left.map (at0 r)) then some t else none), fm_filter] at r5
    obtain ⟨xs, exs⟩ := pick_head (r := r) hne
    rw [exs] at r5
    have eys := rels_ints r5
    subst eys
    exact q D1 xs H5 x5 t5 d5
theorem step17 (mx' : mg "max" = none) {ra ob : Addr} {n m : Nat} (h0 : 0 < n) (hn : n ≤ 3) (hm : m ≤ 5) {R : List (List Int)} (ok : RowsOk R n m) (hu : (lX P w K mg base f cdv A outer s Hb E).A.units + 64 < cLine) {sc d mv : Option V} :
    Step (lX P w K mg base f cdv A outer s Hb E) (lawB 17) (fun σ H => ∃ (k4 l7 t8 d9 h10 s11 o12 b17 : Option V) (tu lf du : Addr) (ps : List Addr) (Ls : List (List Int)), σ = lS sc d (some (.int (n : Nat))) mv k4 (some (.ref ra)) (some (.ref ob)) l7 t8 d9 h10 s11 o12 (some (.int 0)) (some (.ref tu)) (some (.ref lf)) (some (.ref du)) b17 ∧ LB K T H0 ra ob R (lawOrder n) H ∧ TofT K H tu Ls ∧ Given R Ls n m ∧ Reord (stp R (lawOrder n) m m).2 Ls ∧
        H lf = some (.lst ((upto m).map V.int)) ∧ Fr H0 lf ∧ ra ≠ lf ∧ ob ≠ lf ∧ Lots H0 H du ps (List.replicate n []) ∧ lf ∉ du :: ps ∧ ra ∉ du :: ps ∧ ob ∉ du :: ps)
      (fun σ H => ∃ (k4 l7 t8 d9 h10 s11 o12 p13 b17 : Option V) (tu lf du : Addr) (ps : List Addr) (Ls : List (List Int)), σ = lS sc d (some (.int (n : Nat))) mv k4 (some (.ref ra)) (some (.ref ob)) l7 t8 d9 h10 s11 o12 p13 (some (.ref tu)) (some (.ref lf)) (some (.ref du)) b17 ∧ LB K T H0 ra ob R (lawOrder n) H ∧ TofT K H tu Ls ∧ Given R Ls n m ∧ Reord (stp R (lawOrder n) m m).2 Ls ∧
        Lots H0 H du ps (stp R (lawOrder n) m m).2) := by
  refine ⟨_, ps_while PassesOwn.never (pt_cmpR (op_neD hu) (pv 15) (pe_lst pa_nil) (nomark _))
    (pss_cons (ps_set (i := 4) scLaw.nd rfl (Or.inr rfl) (pe_ix ix_list (pv 6) (pe_op op_modN (pv 13) (pv 2)) (fun _ _ => rfl)))
    (pss_cons (ps_set (i := 17) scLaw.nd rfl (Or.inl rfl) (pe_ix ix_list (pe_lc (own := [("_law_thing", 8)]) (g := gName 8) (tt := tBest K) (te := tVar 8) rfl scLaw.nd (pi_list (pv 15)) (blkOk_by (N := lawN) (sc := defScope sLaw) (by decide +kernel)) (fun _ _ _ _ _ => pg_name (i := 8) scLaw.nd rfl (Or.inl rfl))
        (fun _ _ _ _ _ => pts_one (pt_cmpR op_eq (pe_ix ix_tup (pe_ix ix_list (pv 5) (pv 4) (fun _ _ => rfl)) (pv 8) (fun _ _ => rfl)) (pe_callB (cr_max rfl) (by rfl) mx' (by decide +kernel) (pa_cons (pe_lc (own := [("_law_other", 21)]) (g := gName 21) (tt := tYes) (te := tOp (rIxT K) (tOp (rIxL K) (tVar 5) (tVar 4)) (tVar 21)) rfl scLaw.nd (pi_list (pv 15)) (blkOk_by (N := lawN) (by kernel_rfl)) (fun _ _ _ _ _ => pg_name (i := 21) scLaw.nd rfl (Or.inl rfl)) (fun _ _ _ _ _ => pts_nil)
          (fun _ _ _ _ _ => pe_ix ix_tup (pe_ix ix_list (pv 5) (pv 4) (fun _ _ => rfl)) (pv 21) (fun _ _ => rfl))) pa_nil)) (nomark _))) (fun _ _ _ _ _ => pv 8)) pe_int (fun _ _ => rfl)))
    (pss_cons (ps_expr (pe_bm PySem.F.plainAttrs_list PySem.F.slot_list_append PySem.F.type_list_append mt_append (pe_ix ix_list (pv 16) (pv 4) (fun _ _ => rfl)) (pa_cons (pv 17) pa_nil)))
    (pss_cons (ps_expr (pe_bm PySem.F.plainAttrs_list PySem.F.slot_list_remove PySem.F.type_list_remove mt_remove (pv 15) (pa_cons (pv 17) pa_nil)))
    (pss_one (ps_set (i := 13) scLaw.nd rfl (Or.inl rfl) (pe_op op_add (pv 13) pe_int))))))), fun D σ H ⟨k4, l7, t8, d9, h10, s11, o12, b17, tu, lf, du, ps, Ls, es, lb, wt, gv, re, hlf, flf, n1, n2, lo, nl, nr, no⟩ hn' => ?_⟩
  subst es
  have oo := order_ok h0 hn
  obtain ⟨order, eo⟩ : ∃ order, order = lawOrder n := ⟨_, rfl⟩
  rw [← eo] at oo lb re hn'
  have hR : R.length = n := ok.len
  have stp0 : stp R order m 0 = (upto m, List.replicate n []) := by unfold stp; rw [ok.len]
  refine ⟨fun g σ Hc => ∃ (p : Nat) (k4 b17 : Option V), p ≤ m ∧ σ = lS sc d (some (.int (n : Nat))) mv k4 (some (.ref ra)) (some (.ref ob)) l7 t8 d9 h10 s11 o12 (some (.int (p : Nat))) (some (.ref tu)) (some (.ref lf)) (some (.ref du)) b17 ∧ LB K T H0 ra ob R order Hc ∧ TofT K Hc tu Ls ∧ Hc lf = some (.lst ((stp R order m p).1.map V.int)) ∧ Lots H0 Hc du ps (stp R order m p).2 ∧ g = m - p,
    ⟨m, 0, k4, b17, Nat.zero_le _, rfl, lb, wt, by rw [stp0]; exact hlf, by rw [stp0]; exact lo, rfl⟩, fun g σ Hc ⟨p, k4, b17, hp, es, lb, wt, hlf, lo, eg⟩ => ?_⟩
  subst es
  have inv := stp_inv (m := m) oo h0 ok.len p hp
  refine ⟨.ref lf, rfl, Nat.zero_le _, fun pe hpe => ?_⟩
  have x1 : Ext Hc (upd Hc pe (.lst [])) := Ext.new hpe
  have t1 : Tabs T (upd Hc pe (.lst [])) := lb.tabs.same (Same.new hpe)
  refine ⟨_, _, .lst (SqL.of (x1.lst hlf)) (dpInts _), .lst (SqL.of upd_same) .nil, shapedIntsL _, by decide +kernel, _, rfl, ?_⟩
  rw [eqv_nilL]
  by_cases hnil : (stp R order m p).1 = []
  · have e : decide ((stp R order m p).1.map PyData.int = []) = true := decide_eq_true (by rw [hnil]; rfl)
    rw [e]
    refine iteF ?_
    have hpm : p = m := by
      have := inv.cnt
      rw [hnil] at this
      simpa using this
    subst hpm
    exact hn' _ _ ⟨k4, l7, t8, d9, h10, s11, o12, _, b17, tu, lf, du, ps, Ls, rfl, lb.go x1 t1, wt.extT x1, gv, re, lo.ext x1⟩
  · have e : decide ((stp R order m p).1.map PyData.int = []) = false := decide_eq_false (fun z => hnil (List.map_eq_nil_iff.mp z))
    rw [e]
    refine iteT ?_
    have hlo : (natV order).length = n := by rw [natV_len, oo.len]
    have hpn : p % n < order.length := by rw [oo.len]; exact Nat.mod_lt _ h0
    obtain ⟨k1, ek1⟩ : ∃ k1, k1 = order[p % n] := ⟨_, rfl⟩
    have eko : order[p % n]? = some k1 := by rw [ek1]; exact List.getElem?_eq_getElem hpn
    have hk1 : k1 < n := by rw [ek1]; exact oo.lt _ (List.getElem_mem hpn)
    have hkR : k1 < R.length := by rw [ok.len]; exact hk1
    have hpm : p < m := by
      have := inv.cnt
      have : 0 < (stp R order m p).1.length := List.length_pos_iff.mpr hnil
      omega
    obtain ⟨left, eleft⟩ : ∃ left, left = (stp R order m p).1 := ⟨_, rfl⟩
    obtain ⟨L, eL⟩ : ∃ L, L = (stp R order m p).2 := ⟨_, rfl⟩
    rw [← eleft] at hlf hnil
    rw [← eL] at lo
    have inv1 : RInv R order left L n m p := by rw [eleft, eL]; exact inv
    have hkL : k1 < L.length := by rw [inv1.len]; exact hk1
    have hll : left.length ≤ m := by have := inv1.cnt; omega
    refine ⟨fun σ' H' => ∃ g' < g, ∃ (p : Nat) (k4 b17 : Option V), p ≤ m ∧ σ' = lS sc d (some (.int (n : Nat))) mv k4 (some (.ref ra)) (some (.ref ob)) l7 t8 d9 h10 s11 o12 (some (.int (p : Nat))) (some (.ref tu)) (some (.ref lf)) (some (.ref du)) b17 ∧ LB K T H0 ra ob R order H' ∧ TofT K H' tu Ls ∧ H' lf = some (.lst ((stp R order m p).1.map V.int)) ∧ Lots H0 H' du ps (stp R order m p).2 ∧ g' = m - p,
      fun σ' H' ⟨g', hg', rest⟩ => ⟨g', hg', rest⟩, ?_⟩
    -- k = order[place % many]
    refine ⟨.ref ob, rfl, .int (p : Nat), rfl, .int (n : Nat), rfl, _, _, rfl, rfl, (show ((n : Nat) : Int) ≠ 0 by omega), ob, _, _, .int (k1 : Nat), rfl, rfl, SqL.of (x1.lst lb.ord), ?_, ?_⟩
    · have ef : Int.fmod ((p : Nat) : Int) ((n : Nat) : Int) = ((p % n : Nat) : Int) := by
        rw [Int.fmod_eq_emod_of_nonneg _ (by omega), Int.natCast_emod]
      rw [ef]
      exact atI_nat (natV_get eko)
    -- best = [..][0]
    have lb1 := lb.go x1 t1
    obtain ⟨pr, tpr, hix⟩ := lb1.rows.get hkR
    have hrl : (R.getD k1 []).length = m := by rw [getD_at hkR]; exact (ok.row _ (List.getElem_mem hkR)).1
    refine seq_asg_op ?_
    refine best_of t1 tpr hix (x1.lst hlf) hnil (by omega) hrl inv1.lft fun D1 xs H6 x6 t6 d6 => ?_
    obtain ⟨z, ez⟩ : ∃ z, z = pick (R.getD k1 []) left := ⟨_, rfl⟩
    have hz : z ∈ left := by rw [ez]; exact (pick_spec (r := R.getD k1 []) hnil inv1.srt).1
    rw [← ez] at d6
    have x16 := x1.trans x6
    refine ⟨D1, _, 0, .int z, rfl, rfl, SqL.of d6, atI_nat (j := 0) rfl, ?_⟩
    -- due[k].append(best)
    have lb6 := lb.go x16 t6
    have lo6 := lo.ext x16
    have wt6 := wt.extT x16
    have lf6 := x16.lst hlf
    have hpl : ps.length = n := by rw [lo6.len, inv1.len]
    have hjp : k1 < ps.length := by omega
    have hpk : ps[k1]? = some ps[k1] := List.getElem?_eq_getElem hjp
    have e6 := lo6.each k1 _ _ hpk (List.getElem?_eq_getElem hkL)
    have hpm2 : ps[k1] ∈ du :: ps := List.mem_cons_of_mem _ (List.getElem_mem hjp)
    have hlen : L[k1].length ≤ m := by
      obtain ⟨m1, m2⟩ := inv1.one k1 _ (List.getElem?_eq_getElem hkL)
      exact nodup_ltI m1 fun t ht => (m2 t ht).1
    refine ⟨.ref du, rfl, .int (k1 : Nat), rfl, du, _, (k1 : Nat), .ref ps[k1], rfl, rfl, SqL.of lo6.lst, atI_nat (by rw [List.getElem?_map, hpk]; rfl), .inl ⟨rfl, _, SqL.of e6⟩, .int z, rfl, ps[k1], _, _, rfl, rfl, e6, by rw [List.length_map]; exact small1000 (by omega), ?_⟩
    have em : L[k1].map V.int ++ [V.int z] = (L[k1] ++ [z]).map V.int := by
      rw [List.map_append]
      rfl
    rw [em]
    obtain ⟨H7, eH7⟩ : ∃ H7, H7 = upd H6 ps[k1] (.lst ((L[k1] ++ [z]).map V.int)) := ⟨_, rfl⟩
    have nlp : lf ≠ ps[k1] := fun w => nl (by rw [w]; exact hpm2)
    have sb7 : SameBut ps[k1] H6 H7 := by rw [eH7]; exact SameBut.upd1
    have t7 : Tabs T H7 := by rw [eH7]; exact t6.lst e6
    have lb7 := lb6.but sb7 e6 (lo6.fr _ hpm2) t7 (fun w => nr (by rw [w]; exact hpm2)) (fun w => no (by rw [w]; exact hpm2))
    have lo7 : Lots H0 H7 du ps (L.set k1 (L[k1] ++ [z])) := by rw [eH7]; exact lo6.put hpk
    have wt7 := sb7.tofT e6 wt6
    have lf7 : H7 lf = some (.lst (left.map V.int)) := sb7 _ _ nlp lf6
    rw [← eH7]
    -- left.remove(best)
    obtain ⟨j, hj⟩ := List.mem_iff_getElem?.mp hz
    have lnd : left.Nodup := List.nodup_iff_pairwise_ne.mpr (inv1.srt.imp fun {x y} hxy => by omega)
    have est : stp R order m (p + 1) = (left.erase z, L.set k1 (L[k1] ++ [z])) := by
      have e1 : order.getD (p % n) 0 = k1 := by rw [List.getD_eq_getElem?_getD, eko]; rfl
      show ((stp R order m p).1.erase _, _) = _
      simp only [oo.len]
      rw [e1, ← eleft, ← eL, getD_at hkL, ← ez]
    have er : left.eraseIdx j = left.erase z := by
      have : left.idxOf z = j := nd_ix lnd (by rw [List.getElem?_eq_getElem (List.idxOf_lt_length_iff.mpr hz), List.getElem_idxOf (List.idxOf_lt_length_iff.mpr hz)]) hj
      rw [List.erase_eq_eraseIdx_of_idxOf this]
    refine ⟨.ref lf, rfl, .inl ⟨rfl, _, SqL.of lf7⟩, .int z, rfl, lf, left, z, j, rfl, rfl, lf7, hj, fun m' hm' e => ?_, ?_⟩
    · have := nd_ix lnd e hj
      omega
    have sb8 : SameBut lf H7 (upd H7 lf (.lst ((left.eraseIdx j).map V.int))) := SameBut.upd1
    refine ⟨.int (p : Nat), rfl, (p : Nat), 1, rfl, rfl, m - (p + 1), by omega, p + 1, _, _, by omega, rfl, lb7.but sb8 lf7 flf (t7.lst lf7) n1 n2, sb8.tofT lf7 wt7, ?_, ?_, rfl⟩
    · rw [upd_same, est, er]
    · rw [est]
      exact lo7.but sb8 nl
end
end PM
namespace PM
open PySem PySem.Spec PyProof.Rows L2 GenW
theorem dpLists {K : PySem.W.Frag} {H : Hp} : ∀ (vs : List V) (R : List (List Int)), Rels LstI H vs R → DpAll K H vs (R.map fun r => PyData.list (r.map PyData.int))
  | [], [], _ => .nil
  | [], r :: R, h => by have := h.1; simp at this
  | v :: vs, [], h => by have := h.1; simp at this
  | v :: vs, r :: R, h => by
    obtain ⟨⟨p, e, hp⟩, h2⟩ := Rels.cons.mp h
    subst e
    exact .cons (.lst (SqL.of hp) (dpInts r)) (dpLists vs R h2)
theorem shapedLists (R : List (List Int)) : SeqAt.shaped (.list (R.map fun r => PyData.list (r.map PyData.int))) = true := by
  have h0 : ∀ ns : List Int, PyData.canLayAll0 (ns.map PyData.int) = true := fun ns => by
    induction ns with
    | nil => simp [PyData.canLayAll0]
    | cons a r ih => simp [PyData.canLayAll0, PyData.canLay0, ih]
  have h1 : ∀ R : List (List Int), PyData.canLayAll0 (R.map fun r => PyData.list (r.map PyData.int)) = true := fun R => by
    induction R with
    | nil => simp [PyData.canLayAll0]
    | cons a r ih => simp [PyData.canLayAll0, PyData.canLay0, ih, h0]
  have h2 : ∀ R : List (List Int), PyData.depthAll (R.map fun r => PyData.list (r.map PyData.int)) ≤ 2 := fun R => by
    induction R with
    | nil => simp [PyData.depthAll]
    | cons a r ih =>
      have := intsDepth a
      simp only [List.map_cons, PyData.depthAll, PyData.depth]
      omega
  have := h2 R
  show ((PyData.canLay0 (.list (R.map fun r => PyData.list (r.map PyData.int)))) && decide (PyData.depth (.list (R.map fun r => PyData.list (r.map PyData.int))) ≤ 64)) = true
  rw [Bool.and_eq_true]
  refine ⟨by simp only [PyData.canLay0]; exact h1 R, decide_eq_true ?_⟩
  simp only [PyData.depth]
  omega
section
variable {P : Program} {w : World} {K : PySem.W.Frag} {mg : Str → Option Value} {base : Heap} {f : Addr} {cdv : Value} {A : Around} {outer : List Env} {s : Shared} {H0 Hb : Hp} {E : XK} {T : List (Addr × Str)}
theorem step18 (ms : mg "sorted" = none) (mli : mg "list" = none) {ra ob : Addr} {n m : Nat} (hn : n ≤ 3) {R : List (List Int)} (hu : (lX P w K mg base f cdv A outer s Hb E).A.units + 64 < cLine) {sc d nv mv : Option V} :
    Step (lX P w K mg base f cdv A outer s Hb E) (lawB 18) (fun σ H => ∃ (k4 l7 t8 d9 h10 s11 o12 p13 b17 : Option V) (tu lf du : Addr) (ps : List Addr) (Ls : List (List Int)), σ = lS sc d nv mv k4 (some (.ref ra)) (some (.ref ob)) l7 t8 d9 h10 s11 o12 p13 (some (.ref tu)) (some (.ref lf)) (some (.ref du)) b17 ∧ LB K T H0 ra ob R (lawOrder n) H ∧ TofT K H tu Ls ∧ Given R Ls n m ∧ Reord (stp R (lawOrder n) m m).2 Ls ∧
        Lots H0 H du ps (stp R (lawOrder n) m m).2)
      (fun σ H => ∃ (k4 c5 o6 l7 t8 d9 h10 s11 o12 p13 t14 l15 d16 b17 : Option V), σ = lS sc d nv mv k4 c5 o6 l7 t8 d9 h10 s11 o12 p13 t14 l15 d16 b17 ∧ Ext H0 H ∧ Tabs T H) := by
  refine ⟨_, ps_if (pt_cmpR (op_neD hu)
      (pe_lc (own := [("_law_lot", 18)]) (g := gName 18) (tt := tYes) (te := tCB (rSortedI K) (tCons (tVar 18) tNil)) rfl scLaw.nd (pi_list (pv 16)) (blkOk_by (N := lawN) (sc := defScope sLaw) (by decide +kernel)) (fun _ _ _ _ _ => pg_name (i := 18) scLaw.nd rfl (Or.inl rfl)) (fun _ _ _ _ _ => pts_nil)
        (fun _ _ _ _ _ => pe_callB cr_sortedI (by rfl) ms (by decide +kernel) (pa_cons (pv 18) pa_nil)))
      (pe_lc (own := [("_law_lot", 18)]) (g := gName 18) (tt := tYes) (te := tCB (fun xs H Q => ∃ p ys, xs = [.ref p] ∧ (SqL K H p ys ∨ SqT K H p ys) ∧ ∀ l, H l = none → Q (.ref l) (upd H l (.lst ys))) (tCons (tVar 18) tNil)) rfl scLaw.nd (pi_tup (pv 14)) (blkOk_by (N := lawN) (sc := defScope sLaw) (by decide +kernel)) (fun _ _ _ _ _ => pg_name (i := 18) scLaw.nd rfl (Or.inl rfl)) (fun _ _ _ _ _ => pts_nil)
        (fun _ _ _ _ _ => pe_callTy call_list_of (by rfl) mli (by decide +kernel) (pa_cons (pv 18) pa_nil))) (nomark _)) (pss_one (ps_ret pe_bl)) pss_nil, fun D σ H ⟨k4, l7, t8, d9, h10, s11, o12, p13, b17, tu, lf, du, ps, Ls, es, lb, ⟨vt, ht1, ht2⟩, gv, re, lo⟩ hn' => ?_⟩
  subst es
  obtain ⟨L, eL⟩ : ∃ L, L = (stp R (lawOrder n) m m).2 := ⟨_, rfl⟩
  rw [← eL] at re lo
  have hLs : Ls.length = n := gv.inv.len
  have hL : L.length = n := by rw [← re.1, hLs]
  have hpl : ps.length = n := by rw [lo.len, hL]
  have hvt : vt.length = n := by rw [ht2.1, hLs]
  have wl := walk_list (K := K) (a := du) (xs := ps.map V.ref)
  rw [List.length_map, hpl] at wl
  have em : (List.range n).map (fun i => Ls.getD i []) = Ls := by
    rw [← hLs]
    apply List.ext_getElem
    · simp
    · intro i h1 h2
      simp [h2]
  refine ⟨.ref du, rfl, du, rfl, ⟨_, SqL.of lo.lst⟩, fun D1 hD1 => lc_gen (T := T) (Rel := LstI) wl LstI.st (fun i => some (Ls.getD i [])) (by omega) lb.tabs hD1 (fun H1 x1 => SqL.of (x1.lst lo.lst)) (fun i x H1 H' acc Qt Qf hi x1 t1 d1 y hq _ => ?_) (fun H1 ys1 x1 t1 d1 r1 => ?_)⟩
  · obtain ⟨rfl, hx⟩ := y
    have hip : i < ps.length := by omega
    have hiL : i < L.length := by omega
    have hiLs : i < Ls.length := by omega
    rw [List.getElem?_map, List.getElem?_eq_getElem hip] at hx
    obtain rfl := Option.some.inj hx
    have e := x1.lst (lo.each i _ _ (List.getElem?_eq_getElem hip) (List.getElem?_eq_getElem hiL))
    refine ⟨rfl, .ref ps[i], rfl, ps[i], _, rfl, SqL.of e, fun ns' p perm srt hp => ?_⟩
    have eq : ns' = Ls[i] := List.Perm.eq_of_pairwise (fun a b _ _ h1 h2 => by omega) srt (gv.srt _ (List.getElem_mem hiLs)) (perm.trans (re.2 i _ _ (List.getElem?_eq_getElem hiL) (List.getElem?_eq_getElem hiLs)).symm)
    refine hq _ _ _ rfl (Ext.new hp) (t1.same (Same.new hp)) ⟨p, rfl, ?_⟩
    rw [del_new d1 hp upd_same, getD_at hiLs, eq]
  · rw [filterMap_some, em] at r1
    have wt := walk_tup (K := K) (a := tu) (xs := vt)
    rw [hvt] at wt
    refine ⟨.ref tu, rfl, tu, rfl, ⟨_, x1.seqT ht1⟩, fun D2 hD2 => lc_gen (T := T) (Rel := LstI) wt LstI.st (fun i => some (Ls.getD i [])) (by omega) t1 hD2 (fun H2 x2 => (x1.trans x2).seqT ht1) (fun i x H2 H' acc Qt Qf hi x2 t2 d2 y hq _ => ?_) (fun H2 ys2 x2 t2 d2 r2 => ?_)⟩
    · obtain ⟨rfl, hx⟩ := y
      have hiLs : i < Ls.length := by omega
      obtain ⟨q, rfl, hp⟩ := ht2.2 i x _ hx (List.getElem?_eq_getElem hiLs)
      refine ⟨rfl, .ref q, rfl, q, _, rfl, .inr ((x1.trans x2).seqT hp), fun p hp2 => hq _ _ _ rfl (Ext.new hp2) (t2.same (Same.new hp2)) ⟨p, rfl, ?_⟩⟩
      rw [del_new d2 hp2 upd_same, getD_at hiLs]
    · rw [filterMap_some, em] at r2
      have r1' := (r1.ext LstI.st del_sub).ext LstI.st x2
      have r2' := r2.ext LstI.st del_sub
      refine ⟨_, _, .lst (SqL.of (x2.lst d1)) (dpLists ys1 Ls r1'), .lst (SqL.of d2) (dpLists ys2 Ls r2'), shapedLists _, shapedLists _, _, rfl, ?_⟩
      rw [eqv_self (shapedLists _)]
      exact iteF (hn' _ _ ⟨k4, _, _, l7, t8, d9, h10, s11, o12, p13, _, _, _, b17, rfl, lb.ext.trans (x1.trans x2), t2⟩)
end
end PM
namespace PM
open PySem PySem.Spec PyProof.Rows L2 GenW
open LamX (lamEnv lamCx)
theorem passLam {X : Cx} {A : Around} {outer : List Env} {s : Shared} {H : Hp} {E : XK} {scope : Scope} {f c' : Addr} : Passes (L2.CX X.prog X.w) (lamCx X A outer s H E scope f c') E := passes_call (takes_of rfl rfl rfl rfl) (fun _ _ _ _ h => h)
abbrev lawT (i : Nat) : Stmt := (defBody sLaw).getD i (.Pass ⟨0, 0, 0, 0⟩)
theorem scLTold : FnScope ["_law_what"] ["_law_what"] (defScope sLTold) := ⟨rfl, rfl, rfl, by decide +kernel, rfl, by decide +kernel, by decide +kernel⟩
section
variable {P : Program} {w : World} {K : PySem.W.Frag} {mg : Str → Option Value} {base : Heap} {f : Addr} {cdv : Value} {A : Around} {outer : List Env} {s : Shared} {H0 Hb : Hp} {E : XK}
def toldL (D : Defs K mg) : List (Value × Str) := [(.ref D.cBadWish, "wish"), (.ref D.cBadRoom, "room"), (.ref D.cBadMatch, "match"), (.ref D.cBadPaper, "paper"), (.ref D.cBadSize, "size"), (.ref D.cBadText, "text"), (.ref D.cBadStore, "store"), (.ref D.cNoSuch, "no such"), (.ref D.cBadDeed, "deed")]
theorem told_size (D : Defs K mg) {Q : VK} {H : Hp} (q : Q (.str "size") H) : wTold K Q (toldL D) (.ref D.cBadSize) none H :=
  ⟨false, D.eBadWish, fun z => absurd z (by decide), fun _ => ⟨false, D.eBadRoom, fun z => absurd z (by decide), fun _ => ⟨false, D.eBadMatch, fun z => absurd z (by decide), fun _ => ⟨false, D.eBadPaper, fun z => absurd z (by decide), fun _ => ⟨true, D.eBadSize, fun _ => q, fun z => absurd z (by decide)⟩⟩⟩⟩⟩
theorem told_law (D : Defs K mg) {cdt : Value} : GivesX (lX P w K mg base f cdv A outer s Hb E) ["_law_what"] "_law_told" (defScope sLTold) D.fLTold cdt (defBody sLTold) "_law_what" ((lX P w K mg base f cdv A outer s Hb E).env.qual ++ "<lambda>") (TToldN K (toldL D)) :=
  told_givesN (X := lX P w K mg base f cdv A outer s Hb E) (l := toldL D) (fun s H => .cons ⟨rfl, by decide, .inl D.gBadWish⟩ (fun a oe cls d pn _ _ => pss_one (ps_ret pe_str))
    (.cons ⟨rfl, by decide, .inl D.gBadRoom⟩ (fun a oe cls d pn _ _ => pss_one (ps_ret pe_str))
    (.cons ⟨rfl, by decide, .inl D.gBadMatch⟩ (fun a oe cls d pn _ _ => pss_one (ps_ret pe_str))
    (.cons ⟨rfl, by decide, .inl D.gBadPaper⟩ (fun a oe cls d pn _ _ => pss_one (ps_ret pe_str))
    (.cons ⟨rfl, by decide, .inl D.gBadSize⟩ (fun a oe cls d pn _ _ => pss_one (ps_ret pe_str))
    (.cons ⟨rfl, by decide, .inl D.gBadText⟩ (fun a oe cls d pn _ _ => pss_one (ps_ret pe_str))
    (.cons ⟨rfl, by decide, .inl D.gBadStore⟩ (fun a oe cls d pn _ _ => pss_one (ps_ret pe_str))
    (.cons ⟨rfl, by decide, .inl D.gNoSuch⟩ (fun a oe cls d pn _ _ => pss_one (ps_ret pe_str))
    (.cons ⟨rfl, by decide, .inl D.gBadDeed⟩ (fun a oe cls d pn _ _ => pss_one (ps_ret pe_str)) .nil))))))))) (fun _ => rfl)
theorem stepT1 (D : Defs K mg) (O : D.Ok base) (hcd : D.dLaw.code = cdv) (hr : Room 29 (A.deeper (envOfC "law" (defScope sLaw) s.heap.objs.size f cdv))) (GC : FnOk P w K mg base (L2.CX P w) 27 D.fCheck D.dCheck ["rows"] (spCheck K D.T D.cBadSize)) :
    Step (lX P w K mg base f cdv A outer s Hb E) (lawT 1) (fun _ H => Tabs D.T H) (fun _ H => Tabs D.T H) := by
  obtain ⟨oc, od, kV, doc, pm, an, cdt, ct, osl, e, lk, hct⟩ := D.FLTold.ex
  have bt := D.bLTold
  rw [e] at bt lk
  have hr2 : Room (27 + 2) (A.deeper (envOfC "law" (defScope sLaw) s.heap.objs.size f cdv)) := hr
  refine ⟨_, ps_if (pt_not (pt_cmpR op_eq (pe_lamcallX (T := D.T) (TT := TToldN K (toldL D)) (k := 27) (Ng := ["_law_what"]) (a := "_law_what") (t := fun E => tCall (spCheck K D.T D.cBadSize) [] E (tCons (tLst (tCons (tTup (tCons (tC (.int 1)) tNil)) (tCons (tTup (tCons (tC (.int 1)) (tCons (tC (.int 2)) tNil))) tNil))) tNil)) (by rfl) D.mLTold D.FLTold.kp lk hct bt scLTold rfl (.inl rfl)
      (told_law D) O.gLaw.tb (hcd.symm.trans D.hLaw) O.gLaw.mem O.gLaw.uniq hr2 (lamP_by (sc := defScope sLaw) (by decide +kernel)) rfl (fun _ _ _ _ _ => rfl)
      (fun A outer s H E f c' hr2 => pe_call GC hr2 (by rfl) D.mCheck D.FCheck.kp D.bCheck .nil (passLam (X := lX P w K mg base _ cdv _ _ _ _ _)) (pa_cons (pe_lst (pa_cons (pe_tup (pa_cons pe_int pa_nil)) (pa_cons (pe_tup (pa_cons pe_int (pa_cons pe_int pa_nil))) pa_nil))) pa_nil))) pe_str (nomark _))) (pss_one (ps_ret pe_bl)) pss_nil, fun D' σ H hT hn' => ?_⟩
  refine ⟨hT, fun H1 x1 t1 => ?_⟩
  refine ⟨by show 1 ≤ sizeLine; decide, fun p1 hp1 => ⟨by show 2 ≤ sizeLine; decide, fun p2 hp2 => ⟨by show 2 ≤ sizeLine; decide, fun pl hpl => ?_⟩⟩⟩
  have n1 : p1 ≠ p2 := fun z => by rw [← z, upd_same] at hp2; cases hp2
  have x2 : Ext (upd (upd H1 p1 (.tup [.int 1])) p2 (.tup [.int 1, .int 2])) (upd (upd (upd H1 p1 (.tup [.int 1])) p2 (.tup [.int 1, .int 2])) pl (.lst [.ref p1, .ref p2])) := Ext.new hpl
  have a1 : SqT K (upd (upd (upd H1 p1 (.tup [.int 1])) p2 (.tup [.int 1, .int 2])) pl (.lst [.ref p1, .ref p2])) p1 (([1] : List Int).map V.int) := x2.seqT (SqT.of (by rw [upd_ne n1, upd_same]; rfl))
  have a2 : SqT K (upd (upd (upd H1 p1 (.tup [.int 1])) p2 (.tup [.int 1, .int 2])) pl (.lst [.ref p1, .ref p2])) p2 (([1, 2] : List Int).map V.int) := x2.seqT (SqT.of (by rw [upd_same]; rfl))
  have t2 := ((t1.same (Same.new (o := .tup [.int 1]) hp1)).same (Same.new (o := .tup [.int 1, .int 2]) hp2)).same (Same.new (o := .lst [.ref p1, .ref p2]) hpl)
  refine ⟨pl, [[1], [1, 2]], rfl, ⟨_, SqL.of upd_same, (TupsI.nil.snoc ⟨p1, rfl, a1⟩).snoc ⟨p2, rfl, a2⟩⟩, by decide, by decide, t2, fun z => absurd z (by decide), fun _ H' t3 => told_size D ?_⟩
  exact ⟨rfl, _, rfl, iteF (hn' _ _ t3)⟩
theorem stepT2 (D : Defs K mg) (O : D.Ok base) (hcd : D.dLaw.code = cdv) (hr : Room 29 (A.deeper (envOfC "law" (defScope sLaw) s.heap.objs.size f cdv))) (GS : FnOk P w K mg base (L2.CX P w) 27 D.fShare D.dShare ["rows"] (spShare K D.T D.cBadSize)) :
    Step (lX P w K mg base f cdv A outer s Hb E) (lawT 2) (fun _ H => Tabs D.T H) (fun _ H => Tabs D.T H) := by
  obtain ⟨oc, od, kV, doc, pm, an, cdt, ct, osl, e, lk, hct⟩ := D.FLTold.ex
  have bt := D.bLTold
  rw [e] at bt lk
  have hr2 : Room (27 + 2) (A.deeper (envOfC "law" (defScope sLaw) s.heap.objs.size f cdv)) := hr
  refine ⟨_, ps_if (pt_not (pt_cmpR op_eq (pe_lamcallX (T := D.T) (TT := TToldN K (toldL D)) (k := 27) (Ng := ["_law_what"]) (a := "_law_what") (t := fun E => tCall (spShare K D.T D.cBadSize) [] E (tCons (tLst (tCons (tTup (tCons (tOp (rI0 fun i j => .int (i - j)) (tC (.int 0)) (tC (.int 1))) tNil)) tNil)) tNil)) (by rfl) D.mLTold D.FLTold.kp lk hct bt scLTold rfl (.inl rfl)
      (told_law D) O.gLaw.tb (hcd.symm.trans D.hLaw) O.gLaw.mem O.gLaw.uniq hr2 (lamP_by (sc := defScope sLaw) (by decide +kernel)) rfl (fun _ _ _ _ _ => rfl)
      (fun A outer s H E f c' hr2 => pe_call GS hr2 (by rfl) D.mShare D.FShare.kp D.bShare .nil (passLam (X := lX P w K mg base _ cdv _ _ _ _ _)) (pa_cons (pe_lst (pa_cons (pe_tup (pa_cons (pe_op op_sub pe_int pe_int) pa_nil)) pa_nil)) pa_nil))) pe_str (nomark _))) (pss_one (ps_ret pe_bl)) pss_nil, fun D' σ H hT hn' => ?_⟩
  refine ⟨hT, fun H1 x1 t1 => ?_⟩
  refine ⟨_, _, rfl, rfl, by show 1 ≤ sizeLine; decide, fun p1 hp1 => ⟨by show 1 ≤ sizeLine; decide, fun pl hpl => ?_⟩⟩
  have x2 : Ext (upd H1 p1 (.tup [.int (0 - 1)])) (upd (upd H1 p1 (.tup [.int (0 - 1)])) pl (.lst [.ref p1])) := Ext.new hpl
  have a1 : SqT K (upd (upd H1 p1 (.tup [.int (0 - 1)])) pl (.lst [.ref p1])) p1 (([0 - 1] : List Int).map V.int) := x2.seqT (SqT.of (by rw [upd_same]; rfl))
  have t2 := (t1.same (Same.new (o := .tup [.int (0 - 1)]) hp1)).same (Same.new (o := .lst [.ref p1]) hpl)
  refine ⟨pl, [[0 - 1]], rfl, ⟨_, SqL.of upd_same, TupsI.nil.snoc ⟨p1, rfl, a1⟩⟩, by decide, by decide, t2, .inr ⟨by decide, fun H' t3 => told_size D ?_⟩⟩
  exact ⟨rfl, _, rfl, iteF (hn' _ _ t3)⟩
theorem lastT3 (D : Defs K mg) (O : D.Ok base) (hcd : D.dLaw.code = cdv) (hr : Room 29 (A.deeper (envOfC "law" (defScope sLaw) s.heap.objs.size f cdv))) (GF : FnOk P w K mg base (L2.CX P w) 27 D.fFair D.dFair ["rows", "one"] (spFair K D.T D.cBadSize)) :
    ∃ t, PS (lX P w K mg base f cdv A outer s Hb E) (lawT 3) t ∧ ∀ (D' : Ends) (σ : L2.St) (H : Hp), Tabs D.T H → (∀ H', D'.rt (.bl true) H') → t D' σ H := by
  obtain ⟨oc, od, kV, doc, pm, an, cdt, ct, osl, e, lk, hct⟩ := D.FLTold.ex
  have bt := D.bLTold
  rw [e] at bt lk
  have hr2 : Room (27 + 2) (A.deeper (envOfC "law" (defScope sLaw) s.heap.objs.size f cdv)) := hr
  refine ⟨_, ps_ret (pe_cmpR op_eq (pe_lamcallX (T := D.T) (TT := TToldN K (toldL D)) (k := 27) (Ng := ["_law_what"]) (a := "_law_what") (t := fun E => tCall (spFair K D.T D.cBadSize) [] E (tCons (tLst (tCons (tOp (rRepT K) (tTup (tCons (tC (.int 1)) tNil)) (tC (.int 7))) tNil)) (tCons (tC (.int 0)) tNil))) (by rfl) D.mLTold D.FLTold.kp lk hct bt scLTold rfl (.inl rfl)
      (told_law D) O.gLaw.tb (hcd.symm.trans D.hLaw) O.gLaw.mem O.gLaw.uniq hr2 (lamP_by (sc := defScope sLaw) (by decide +kernel)) rfl (fun _ _ _ _ _ => rfl)
      (fun A outer s H E f c' hr2 => pe_call GF hr2 (by rfl) D.mFair D.FFair.kp D.bFair .nil (passLam (X := lX P w K mg base _ cdv _ _ _ _ _)) (pa_cons (pe_lst (pa_cons (pe_op op_repT (pe_tup (pa_cons pe_int pa_nil)) pe_int) pa_nil)) (pa_cons pe_int pa_nil)))) pe_str (nomark _)), fun D' σ H hT hn' => ?_⟩
  refine ⟨hT, fun H1 x1 t1 => ?_⟩
  refine ⟨by show 1 ≤ sizeLine; decide, fun p1 hp1 => ⟨p1, 7, _, rfl, rfl, SqT.of upd_same, by simp, by decide, by decide, by decide, fun p2 hp2 => ⟨by show 1 ≤ sizeLine; decide, fun pl hpl => ?_⟩⟩⟩
  have x2 : Ext (upd (upd H1 p1 (.tup [.int 1])) p2 (.tup (List.replicate (7 : Int).toNat [V.int 1]).flatten)) (upd (upd (upd H1 p1 (.tup [.int 1])) p2 (.tup (List.replicate (7 : Int).toNat [V.int 1]).flatten)) pl (.lst [.ref p2])) := Ext.new hpl
  have a2 : SqT K (upd (upd (upd H1 p1 (.tup [.int 1])) p2 (.tup (List.replicate (7 : Int).toNat [V.int 1]).flatten)) pl (.lst [.ref p2])) p2 (([1, 1, 1, 1, 1, 1, 1] : List Int).map V.int) := x2.seqT (SqT.of (by rw [upd_same]; rfl))
  have t2 := ((t1.same (Same.new (o := .tup [.int 1]) hp1)).same (Same.new (o := .tup (List.replicate (7 : Int).toNat [V.int 1]).flatten) hp2)).same (Same.new (o := .lst [.ref p2]) hpl)
  refine ⟨pl, [[1, 1, 1, 1, 1, 1, 1]], _, rfl, ⟨_, SqL.of upd_same, TupsI.nil.snoc ⟨p2, rfl, a2⟩⟩, rfl, by decide, by decide, t2, .inr ⟨by decide, fun H' t3 => told_size D ?_⟩⟩
  exact ⟨rfl, hn' _⟩
end
end PM
namespace PM
open PySem PySem.Spec PyProof.Rows L2 GenW
def StepsR (X : Cx) (l : List Stmt) (Pre Post : L2.St → Hp → Prop) : Prop := ∃ t, PSs X l t ∧ ∀ (D : Ends) (σ : L2.St) (H : Hp), Pre σ H → (∀ σ' H', Post σ' H' → D.nx σ' H') → t D σ H
theorem StepsR.one {X : Cx} {st : Stmt} {Pre Post : L2.St → Hp → Prop} (h : Step X st Pre Post) : StepsR X [st] Pre Post := by
  obtain ⟨t, p, q⟩ := h
  exact ⟨t, pss_one p, q⟩
theorem StepsR.cons {X : Cx} {st : Stmt} {r : List Stmt} {Pre Mid Post : L2.St → Hp → Prop} (h : Step X st Pre Mid) (h2 : StepsR X r Mid Post) : StepsR X (st :: r) Pre Post := by
  obtain ⟨t, p, q⟩ := h
  obtain ⟨u, p2, q2⟩ := h2
  exact ⟨tSeq t u, pss_cons p p2, fun D σ H hp hn => q _ σ H hp fun σ' H' hm => q2 D σ' H' hm hn⟩
theorem StepsR.pre {X : Cx} {l : List Stmt} {ι : Type} {Q : ι → Prop} {Pre' : ι → L2.St → Hp → Prop} {Pre Post : L2.St → Hp → Prop} (h : ∀ σ H, Pre σ H → ∃ a, Q a ∧ Pre' a σ H) (g : ∀ a, Q a → StepsR X l (Pre' a) Post) : StepsR X l Pre Post := by
  refine ⟨fun D σ H => ∃ (a : ι) (q : Q a), (g a q).choose D σ H, ⟨fun pins s σ H D I ⟨a, q, hh⟩ => (g a q).choose_spec.1.run pins s σ H D I hh⟩, fun D σ H hp hn => ?_⟩
  obtain ⟨a, q, hh⟩ := h σ H hp
  exact ⟨a, q, (g a q).choose_spec.2 D σ H hh hn⟩
theorem StepsR.imp {X : Cx} {l : List Stmt} {Pre Pre' Post : L2.St → Hp → Prop} (h : ∀ σ H, Pre σ H → Pre' σ H) (g : StepsR X l Pre' Post) : StepsR X l Pre Post := by
  obtain ⟨t, p, q⟩ := g
  exact ⟨t, p, fun D σ H hp hn => q D σ H (h σ H hp) hn⟩
section
variable {P : Program} {w : World} {K : PySem.W.Frag} {mg : Str → Option Value} {base : Heap} {f : Addr} {cdv : Value} {A : Around} {outer : List Env} {s : Shared} {H0 Hb : Hp} {E : XK}
abbrev bodyL : List Stmt := [lawB 0, lawB 1, lawB 2, lawB 3, lawB 4, lawB 5, lawB 6, lawB 7, lawB 8, lawB 9, lawB 10, lawB 11, lawB 12, lawB 13, lawB 14, lawB 15, lawB 16, lawB 17, lawB 18]
/-- the promises, at a level -/
structure Prom (P : Program) (w : World) (K : PySem.W.Frag) (mg : Str → Option Value) (base : Heap) (D : Defs K mg) (lv : Nat) : Prop where
  worth : FnOk P w K mg base CX0 lv D.fWorth D.dWorth ["row", "things"] (spWorth K D.T)
  envies : FnOk P w K mg base CX0 lv D.fEnvies D.dEnvies ["rows", "lots", "one", "other"] (spEnvies K D.T)
  calm : FnOk P w K mg base CX0 lv D.fCalm D.dCalm ["rows", "lots"] (spCalm K D.T)
  but : FnOk P w K mg base CX0 lv D.fBut D.dBut ["rows", "lots"] (spBut K D.T)
  check : FnOk P w K mg base (L2.CX P w) lv D.fCheck D.dCheck ["rows"] (spCheck K D.T D.cBadSize)
  share : FnOk P w K mg base (L2.CX P w) lv D.fShare D.dShare ["rows"] (spShare K D.T D.cBadSize)
  rounds : FnOk P w K mg base CX0 lv D.fRounds D.dRounds ["rows", "order"] (spRounds K D.T)
  given : FnOk P w K mg base CX0 lv D.fGiven D.dGiven ["rows", "lots"] (spGiven K D.T)
  least : FnOk P w K mg base CX0 lv D.fLeast D.dLeast ["rows", "lots"] (spLeast K D.T)
  fair : FnOk P w K mg base (L2.CX P w) lv D.fFair D.dFair ["rows", "one"] (spFair K D.T D.cBadSize)
  lflat : FnOk P w K mg base CX0 lv D.fLFlat D.dLFlat ["_law_rows"] (spLFlat K)
  lroll : FnOk P w K mg base CX0 lv D.fLRoll D.dLRoll ["_law_dice_here", "_law_many"] spLRoll
  lworth : FnOk P w K mg base CX0 lv D.fLWorth D.dLWorth ["_law_row", "_law_lot"] (spLWorth K D.T)
  lbut : FnOk P w K mg base CX0 lv D.fLBut D.dLBut ["_law_rows", "_law_lots"] (spLBut K D.T)
theorem body_ok (D : Defs K mg) (pr : Prom P w K mg base D 29) (hr : Room 29 (A.deeper (envOfC "law" (defScope sLaw) s.heap.objs.size f cdv))) {d : Addr} (fd : Fr H0 d) {sc : Option V} :
    StepsR (lX P w K mg base f cdv A outer s Hb E) bodyL (fun σ H => ∃ n3 m3 k4 c5 o6 l7 t8 d9 h10 s11 o12 p13 t14 l15 d16 b17, σ = lS sc (some (.ref d)) n3 m3 k4 c5 o6 l7 t8 d9 h10 s11 o12 p13 t14 l15 d16 b17 ∧ Ext H0 H ∧ Tabs D.T H ∧ DiceAt H d)
      (fun σ H => ∃ n3 m3 k4 c5 o6 l7 t8 d9 h10 s11 o12 p13 t14 l15 d16 b17, σ = lS sc (some (.ref d)) n3 m3 k4 c5 o6 l7 t8 d9 h10 s11 o12 p13 t14 l15 d16 b17 ∧ Ext H0 H ∧ Tabs D.T H) := by
  have hr1 : Room (28 + 1) (A.deeper (envOfC "law" (defScope sLaw) s.heap.objs.size f cdv)) := hr
  -- slots that stand at the start
  refine StepsR.pre (ι := Fin 16 → Option V) (Q := fun _ => True) (Pre' := fun v σ H => (∃ n3 m3, σ = lS sc (some (.ref d)) n3 m3 (v 2) (v 3) (v 4) (v 5) (v 6) (v 7) (v 8) (v 9) (v 10) (v 11) (v 12) (v 13) (v 14) (v 15) ∧ Ext H0 H ∧ Tabs D.T H ∧ DiceAt H d))
    (fun σ H ⟨n3, m3, k4, c5, o6, l7, t8, d9, h10, s11, o12, p13, t14, l15, d16, b17, es, h⟩ => ⟨fun i => [none, none, k4, c5, o6, l7, t8, d9, h10, s11, o12, p13, t14, l15, d16, b17].getD i.val none, trivial, n3, m3, es, h⟩) (fun v _ => ?_)
  refine .cons (step0 hr1 D.FLRoll D.bLRoll D.mLRoll pr.lroll fd) ?_
  refine StepsR.pre (ι := Nat × Nat) (Q := fun a => 0 < a.1 ∧ a.1 ≤ 3 ∧ a.2 ≤ 5) (Pre' := fun a σ H => ∃ c5, σ = lS sc (some (.ref d)) (some (.int (a.1 : Nat))) (some (.int (a.2 : Nat))) (v 2) c5 (v 4) (v 5) (v 6) (v 7) (v 8) (v 9) (v 10) (v 11) (v 12) (v 13) (v 14) (v 15) ∧ Ext H0 H ∧ Tabs D.T H ∧ DiceAt H d)
    (fun σ H ⟨n, m, h0, hn, hm, es, h⟩ => ⟨(n, m), ⟨h0, hn, hm⟩, _, es, h⟩) (fun ⟨n, m⟩ ⟨h0, hn, hm⟩ => ?_)
  refine .cons (step1 hr1 D.z_range D.z_tuple D.FLRoll D.bLRoll D.mLRoll pr.lroll fd hn hm) ?_
  refine StepsR.pre (ι := Addr × List (List Int)) (Q := fun a => RowsOk a.2 n m) (Pre' := fun a σ H => σ = lS sc (some (.ref d)) (some (.int (n : Nat))) (some (.int (m : Nat))) (v 2) (some (.ref a.1)) (v 4) (v 5) (v 6) (v 7) (v 8) (v 9) (v 10) (v 11) (v 12) (v 13) (v 14) (v 15) ∧ Ext H0 H ∧ Tabs D.T H ∧ DiceAt H d ∧ a.1 ≠ d ∧ LofH K H a.1 a.2)
    (fun σ H ⟨ra, R, ok, h⟩ => ⟨(ra, R), ok, h⟩) (fun ⟨ra, R⟩ ok => ?_)
  refine .cons (step2 D.z_range hn hm) ?_
  refine StepsR.pre (ι := Addr) (Q := fun _ => True) (Pre' := fun ob σ H => ∃ (l7 : Option V), σ = lS sc (some (.ref d)) (some (.int (n : Nat))) (some (.int (m : Nat))) (v 2) (some (.ref ra)) (some (.ref ob)) l7 (v 6) (v 7) (v 8) (v 9) (v 10) (v 11) (v 12) (v 13) (v 14) (v 15) ∧ LB K D.T H0 ra ob R (lawOrder n) H ∧ DiceAt H d ∧ ra ≠ d ∧ ob ≠ d)
    (fun σ H ⟨ob, es, h⟩ => ⟨ob, trivial, _, es, h⟩) (fun ob _ => ?_)
  refine .cons (step3 hr D.z_range D.z_sorted D.z_list D.FShare D.bShare D.mShare pr.share D.FRounds D.bRounds D.mRounds pr.rounds D.FLFlat D.bLFlat D.mLFlat pr.lflat D.FGiven D.bGiven D.mGiven pr.given D.FBut D.bBut D.mBut pr.but D.FLBut D.bLBut D.mLBut pr.lbut h0 hn hm ok) ?_
  refine StepsR.imp (fun σ H ⟨l7, es, h⟩ => ⟨l7, _, es, h⟩) (.cons (step4 D.z_range hn) ?_)
  refine StepsR.imp (fun σ H ⟨l7, dl, ps, es, h⟩ => ⟨l7, _, dl, ps, es, h⟩) (.cons (step5 hr1 D.z_range D.FLRoll D.bLRoll D.mLRoll pr.lroll fd h0 hn hm) ?_)
  refine .cons (step6 D.z_tuple hn hm) ?_
  refine StepsR.imp (fun σ H ⟨t8, d9, la, L, es, h⟩ => ⟨t8, d9, _, la, L, es, h⟩) (.cons (step7 hr D.z_range D.FLFlat D.bLFlat D.mLFlat pr.lflat D.FLWorth D.bLWorth D.mLWorth pr.lworth hn hm ok) ?_)
  refine .cons (step8 hr D.z_range D.FLFlat D.bLFlat D.mLFlat pr.lflat D.FEnvies D.bEnvies D.mEnvies pr.envies D.FBut D.bBut D.mBut pr.but D.FLBut D.bLBut D.mLBut pr.lbut D.FCalm D.bCalm D.mCalm pr.calm hn hm ok) ?_
  refine .cons (step9 hr D.z_range D.z_min D.FLWorth D.bLWorth D.mLWorth pr.lworth D.FWorth D.bWorth D.mWorth pr.worth D.FLeast D.bLeast D.mLeast pr.least h0 hn hm ok) ?_
  refine .cons (step10 hr D.FGiven D.bGiven D.mGiven pr.given h0 hn hm ok) ?_
  refine StepsR.imp (fun σ H ⟨l7, t8, d9, h10, es, h⟩ => ⟨l7, t8, d9, h10, _, es, h⟩) (.cons (step11 hn) ?_)
  refine StepsR.imp (fun σ H ⟨l7, t8, d9, h10, sa, ys, es, h⟩ => ⟨l7, t8, d9, h10, _, sa, ys, es, h⟩) (.cons (step12 hr D.z_range D.FLFlat D.bLFlat D.mLFlat pr.lflat h0 hn hm ok) ?_)
  refine .cons (step13 hr D.z_min D.z_max D.FFair D.bFair D.mFair pr.fair h0 hn hm ok) ?_
  refine StepsR.imp (fun σ H ⟨l7, t8, d9, h10, s11, o12, es, h⟩ => ⟨l7, t8, d9, h10, s11, o12, _, es, h⟩) (.cons (step14 hr D.FRounds D.bRounds D.mRounds pr.rounds h0 hn hm ok) ?_)
  refine StepsR.imp (fun σ H ⟨l7, t8, d9, h10, s11, o12, tu, Ls, es, h⟩ => ⟨l7, t8, d9, h10, s11, o12, _, _, tu, Ls, es, h⟩) (.cons (step15 D.z_range D.z_list hm) ?_)
  refine StepsR.imp (fun σ H ⟨l7, t8, d9, h10, s11, o12, tu, lf, Ls, es, h⟩ => ⟨l7, t8, d9, h10, s11, o12, _, tu, lf, Ls, es, h⟩) (.cons (step16 D.z_range hn) ?_)
  refine StepsR.imp (fun σ H ⟨l7, t8, d9, h10, s11, o12, tu, lf, du, ps, Ls, es, h⟩ => ⟨_, l7, t8, d9, h10, s11, o12, _, tu, lf, du, ps, Ls, es, h⟩) (.cons (step17 D.z_max h0 hn hm ok hr.units) ?_)
  refine .one ?_
  obtain ⟨t, p, q⟩ := step18 (P := P) (w := w) (mg := mg) (base := base) (f := f) (cdv := cdv) (A := A) (outer := outer) (s := s) (H0 := H0) (Hb := Hb) (E := E) (T := D.T) (ra := ra) (ob := ob) (n := n) (m := m) (R := R) (K := K) D.z_sorted D.z_list hn hr.units (sc := sc) (d := some (.ref d)) (nv := some (.int (n : Nat))) (mv := some (.int (m : Nat)))
  exact ⟨t, p, fun D' σ H hp hn' => q D' σ H hp fun σ' H' ⟨k4, c5, o6, l7, t8, d9, h10, s11, o12, p13, t14, l15, d16, b17, es, h⟩ => hn' _ _ ⟨_, _, k4, c5, o6, l7, t8, d9, h10, s11, o12, p13, t14, l15, d16, b17, es, h⟩⟩
end
end PM
namespace PM
open PySem PySem.Spec PyProof.Rows L2 GenW
section
variable {P : Program} {w : World} {K : PySem.W.Frag} {mg : Str → Option Value} {base : Heap}
theorem prom (D : Defs K mg) (O : D.Ok base) (j : Nat) : Prom P w K mg base D (j + 16) := by
  have gw : ∀ k, FnOk P w K mg base CX0 (k + 4) D.fWorth D.dWorth ["row", "things"] (spWorth K D.T) := fun k => ok_worth D.FWorth O.gWorth D.hWorth D.z_sum
  have ge : ∀ k, FnOk P w K mg base CX0 (k + 5) D.fEnvies D.dEnvies ["rows", "lots", "one", "other"] (spEnvies K D.T) := fun k => ok_envies D.FEnvies D.FWorth D.bWorth D.mWorth (gw k)
  have gc : ∀ k, FnOk P w K mg base (L2.CX P w) (k + 7) D.fCheck D.dCheck ["rows"] (spCheck K D.T D.cBadSize) := fun k => ok_check D.FCheck O.gCheck D.hCheck D.z_any D.z_len D.z_tuple D.ex
  have gn : ∀ k, FnOk P w K mg base CX0 (k + 6) D.fEnviers D.dEnviers ["rows", "lots"] (spEnviers K D.T) := fun k => ok_enviers D.FEnviers D.z_range D.z_len D.FEnvies D.bEnvies D.mEnvies (ge k)
  have gp : ∀ k, FnOk P w K mg base CX0 (k + 1) D.fPut D.dPut ["sums", "place", "much"] (spPut K) := fun k => ok_put D.FPut
  have gl : ∀ k, FnOk P w K mg base CX0 (k + 1) D.fLWorth D.dLWorth ["_law_row", "_law_lot"] (spLWorth K D.T) := fun k => ok_lworth D.FLWorth D.z_sum
  exact {
    worth := gw (j + 12)
    envies := ge (j + 11)
    calm := ok_calm (k := j + 7) D.FCalm O.gCalm D.hCalm D.z_any D.z_range D.z_len D.FEnvies D.bEnvies D.mEnvies (ge (j + 7))
    but := ok_but (k := j + 11) D.FBut O.gBut D.hBut D.z_max D.z_enumerate D.FWorth D.bWorth D.mWorth (gw (j + 11))
    check := gc (j + 9)
    share := ok_share (k := j + 4) D.FShare D.z_range D.z_len D.z_tuple D.z_sorted D.FCheck D.bCheck D.mCheck (gc (j + 8)) D.FEnviers D.bEnviers D.mEnviers (gn (j + 4)) D.FPassed D.bPassed D.mPassed (ok_passed (k := j + 4) D.FPassed D.z_list D.z_enumerate D.z_len) D.FRing D.bRing D.mRing (ok_ring (k := j + 4) D.FRing D.z_list D.z_reversed D.z_min D.z_tuple)
    rounds := ok_rounds (k := j + 4) D.FRounds O.gRounds D.hRounds D.z_range D.z_len D.z_tuple D.z_sorted D.z_list D.z_max D.FCheck D.bCheck D.mCheck (gc (j + 8))
    given := ok_given (k := j + 15) D.FGiven D.z_range D.z_len D.z_sorted D.z_list
    least := ok_least (k := j + 11) D.FLeast D.z_min D.z_zip D.FWorth D.bWorth D.mWorth (gw (j + 11))
    fair := ok_fair (k := j + 14) D.FFair D.z_range D.z_len D.z_min D.z_max D.ex D.FPut D.bPut D.mPut (gp (j + 14))
    lflat := ok_lflat (k := j + 15) D.FLFlat
    lroll := ok_lroll (k := j + 15) D.FLRoll D.z_int
    lworth := gl (j + 15)
    lbut := ok_lbut (k := j + 14) D.FLBut D.z_range D.z_len D.z_min D.FLWorth D.bLWorth D.mLWorth (gl (j + 14)) }
def spLaw (K : PySem.W.Frag) (T : List (Addr × Str)) : Sp := fun vs H Q _ => ∃ (a : Addr) (ns : List Int), vs = [.ref a] ∧ SqL K H a (ns.map V.int) ∧ ns.length ≤ 63 ∧ Tabs T H ∧ ∀ H', Q (.bl true) H'
theorem ok_law (D : Defs K mg) (O : D.Ok base) : FnOk P w K mg base CX0 30 D.fLaw D.dLaw ["_law_script"] (spLaw K D.T) := by
  refine okC (k := 29) D.FLaw scLaw (fun vs H Q E h => ?_) (fun cdv hcd A outer s H vs Q E hr h => ?_)
  · obtain ⟨a, ns, rfl, _⟩ := h
    rfl
  · obtain ⟨a, ns, rfl, hA, hl, hT, q⟩ := h
    have pr : Prom P w K mg base D 29 := prom D O 13
    have pr2 : Prom P w K mg base D 27 := prom D O 11
    have GR : FnOk P w K mg base CX0 29 D.fLRounds D.dLRounds ["_law_script", "_law_most_now"] (spLRounds K D.T) := ok_lrounds (k := 27) D.FLRounds D.FLDice D.bLDice D.mLDice (ok_ldice (k := 27) D.FLDice D.z_abs D.z_int)
    obtain ⟨t1, p1, q1⟩ := stepT1 (w := w) (P := P) (A := A) (outer := outer) (s := s) (Hb := H) (E := E) (f := D.fLaw) (cdv := cdv) D O hcd hr pr2.check
    obtain ⟨t2, p2, q2⟩ := stepT2 (w := w) (P := P) (A := A) (outer := outer) (s := s) (Hb := H) (E := E) (f := D.fLaw) (cdv := cdv) D O hcd hr pr2.share
    obtain ⟨t3, p3, q3⟩ := lastT3 (w := w) (P := P) (A := A) (outer := outer) (s := s) (Hb := H) (E := E) (f := D.fLaw) (cdv := cdv) D O hcd hr pr2.fair
    have body : ∀ (x : Addr × Hp), Fr x.2 x.1 → StepsR (lX P w K mg base D.fLaw cdv A outer s H E) bodyL (fun σ H => ∃ n3 m3 k4 c5 o6 l7 t8 d9 h10 s11 o12 p13 t14 l15 d16 b17, σ = lS (some (.ref a)) (some (.ref x.1)) n3 m3 k4 c5 o6 l7 t8 d9 h10 s11 o12 p13 t14 l15 d16 b17 ∧ Ext x.2 H ∧ Tabs D.T H ∧ DiceAt H x.1)
      (fun σ H => ∃ d n3 m3 k4 c5 o6 l7 t8 d9 h10 s11 o12 p13 t14 l15 d16 b17, σ = lS (some (.ref a)) d n3 m3 k4 c5 o6 l7 t8 d9 h10 s11 o12 p13 t14 l15 d16 b17 ∧ Ext x.2 H ∧ Tabs D.T H) := fun x fx => by
      obtain ⟨t, p, g⟩ := body_ok (P := P) (w := w) (A := A) (outer := outer) (s := s) (H0 := x.2) (Hb := H) (E := E) (f := D.fLaw) (cdv := cdv) D pr hr (d := x.1) fx (sc := some (.ref a))
      exact ⟨t, p, fun D' σ H hp hn' => g D' σ H hp fun σ' H' hh => hn' _ _ ⟨_, hh⟩⟩
    let tB : TS := fun D' σ H' => ∃ (x : Addr × Hp) (fx : Fr x.2 x.1), (body x fx).choose D' σ H'
    have pB : PSs (lX P w K mg base D.fLaw cdv A outer s H E) bodyL tB := ⟨fun pins s σ H D I ⟨x, fx, hh⟩ => (body x fx).choose_spec.1.run pins s σ H D I hh⟩
    refine ⟨_, pss_cons (ps_for PassesOwn.never rfl (pi_list (pe_call GR hr (by rfl) D.mLRounds D.FLRounds.kp D.bLRounds .nil pass0 (pa_cons (pv 0) (pa_cons pe_int pa_nil)))) (pg_name (i := 1) scLaw.nd rfl (.inr rfl)) pB) (pss_cons p1 (pss_cons p2 (pss_one p3))), ?_⟩
    refine ⟨.ref a, rfl, a, ns, rfl, hA, hT, fun H' r d fr fd x0 t0 hr' dc => ?_⟩
    have nrd : r ≠ d := fun z => by
      obtain ⟨u, v, w', e⟩ := dc
      rw [← z, hr'] at e
      cases e
    have hdel : del H' d r = some (.lst [.ref d]) := by
      rw [del_ne nrd]
      exact hr'
    have fdd : Fr (del H' d) d := fun o e => by
      unfold del at e
      rw [if_pos rfl] at e
      cases e
    refine ⟨r, rfl, ⟨_, SqL.of hr'⟩, for_list (xs := [.ref d]) (fun i σ H1 => ∃ d1 n3 m3 k4 c5 o6 l7 t8 d9 h10 s11 o12 p13 t14 l15 d16 b17, σ = lS (some (.ref a)) d1 n3 m3 k4 c5 o6 l7 t8 d9 h10 s11 o12 p13 t14 l15 d16 b17 ∧ Ext (del H' d) H1 ∧ Tabs D.T H1 ∧ (i = 0 → DiceAt H1 d))
      ⟨none, none, none, none, none, none, none, none, none, none, none, none, none, none, none, none, none, rfl, del_sub, t0, fun _ => dc⟩ (fun i σ H1 _ ⟨_, _, _, _, _, _, _, _, _, _, _, _, _, _, _, _, _, _, x1, _⟩ => SqL.of (x1.lst hdel)) (fun i x σ H1 hx ⟨d1, n3, m3, k4, c5, o6, l7, t8, d9, h10, s11, o12, p13, t14, l15, d16, b17, es, x1, t1', dc1⟩ => ?_) (fun σ H1 ⟨d1, n3, m3, k4, c5, o6, l7, t8, d9, h10, s11, o12, p13, t14, l15, d16, b17, es, x1, t1', _⟩ => ?_)⟩
    · subst es
      have hi : i = 0 := by
        have := (List.getElem?_eq_some_iff.mp hx).1
        simpa using this
      subst hi
      obtain rfl := Option.some.inj hx
      exact ⟨(d, del H' d), fdd, (body (d, del H' d) fdd).choose_spec.2 _ _ _ ⟨n3, m3, k4, c5, o6, l7, t8, d9, h10, s11, o12, p13, t14, l15, d16, b17, rfl, x1, t1', dc1 rfl⟩ fun σ' H2 ⟨d1, n3, m3, k4, c5, o6, l7, t8, d9, h10, s11, o12, p13, t14, l15, d16, b17, es, x2, t2'⟩ => ⟨d1, n3, m3, k4, c5, o6, l7, t8, d9, h10, s11, o12, p13, t14, l15, d16, b17, es, x2, t2', fun z => absurd z (by decide)⟩⟩
    · exact q1 _ _ _ t1' fun σ2 H2 t2' => q2 _ _ _ t2' fun σ3 H3 t3' => q3 _ _ _ t3' q
end
end PM
namespace PM
open PySem PySem.Spec PyProof.Rows L2 GenW
/-- the tables of all defs named stand empty -/
def AllTab (names : List Str) (K : PySem.W.Frag) (mg : Str → Option Value) (h : Heap) : Prop := ∀ x ∈ names, ∀ (f c P : Addr) (o : Obj) (fd : FuncData) (e : Value) (dd : Option Addr) (vs : Array Value) (sl : Array (Option Value)), mg x = some (.ref f) → K.lookup f = some o → o.data = .func fd → fd.code = .ref c → K.lookup c = some ⟨e, dd, .fields vs, sl⟩ → vs[11]? = some (.ref P) →
  h.get? P = some { cls := .none, data := .fields #[] } ∧ PySem.W.CodeHd h c P
theorem walk_ofAll {l : PySem.W.OpenLaw} {n k : Nat} {q : Program} {loose : List Str} {XP : (Str → Option Value) → Heap → Prop} {YP : World → Heap → Prop} {d : DefRec} {K : Params → PySem.W.Frag} {CX : World → CXT} {x : Str} (names : List Str)
    (hn : l.most = some n) (hn2 : n ≤ sizeLine) (hdf : d.params.defaults = []) (hr : Room k callerA) (hrec : (names.all fun x => (recsOf q).any fun e => e.name == x) = true) (hY : ∀ (w : World) (h : Heap), YP w h → (K w.params).In h)
    (F : ∀ (w : World) (mg : Str → Option Value) (fa : Addr) (h : Heap), YP w h → (K w.params).In h → h.Ns mainGlobals mg → mg d.name = some (.ref fa) → AllTab names (K w.params) mg h → LamX.LawAtS l w (K w.params) (CX w) k n x mg fa h)
    (hCX : ∀ (w : World) (H : Hp) (s : Shared) (e : Value) (s' : Shared), CX w [] H s (fun _ _ _ => False) e s' → False) :
    PySem.W.WalkO q loose XP YP l.row.toRowW d [] (fun f vs => PySem.call f vs) := by
  refine Att.attach_callB hn hdf fun w s₀ s₁ mg mb fa o pm cd doc a vs ns G Y ho hd hcd hmg hobj hints hlen hbits hg => ?_
  have KX := hY w _ Y
  have own : AllTab names (K w.params) mg s₁.heap := fun y hy f c P o1 fd1 e dd vs1 sl k0 k1 k2 k3 k4 k5 => by
    obtain ⟨dL, hm, hn1⟩ := List.any_eq_true.mp (List.all_eq_true.mp hrec y hy)
    have hn2 : dL.name = y := beq_iff_eq.mp hn1
    obtain ⟨a', o', fd', c', P', h1, h2, h3, h4, h5, h6⟩ := G.T.tab dL hm
    rw [hn2, k0] at h1
    cases h1
    have g1 := KX _ _ k1
    rw [g1] at h2
    cases h2
    rw [k2] at h3
    cases h3
    rw [k3] at h4
    cases h4
    have hh := PySem.W.CodeHd.of h5 h6
    obtain ⟨⟨oc, vc, e1, _, e3, e4⟩, hP⟩ := h6
    have g2 := KX _ _ k4
    rw [g2] at e1
    cases e1
    cases e3
    rw [k5] at e4
    cases e4
    exact ⟨hP, hh⟩
  obtain ⟨fd, cs, sp, hT, nT, C, hb, hsp, hF⟩ := F w mg fa _ Y KX G.T.g hmg own
  exact LamX.law_callTs KX G.T.g G.T.b G.T.builtins G.T.nolimit hg hT nT C G.T.bmain hobj hints (Nat.le_trans hlen hn2) hr hF hb (fun H hH hS => hsp H a ns hlen hbits hH hS) fun H e s' => hCX w H s₁ e s'
abbrev tabNames : List Str := ["worth", "check_rows", "is_calm", "but_one", "in_rounds", "law"]
theorem all_mk {l : PySem.W.OpenLaw} {w : World} {K : PySem.W.Frag} {h : Heap} {mg : Str → Option Value} {fa : Addr} (X : K.In h) (G : h.Ns mainGlobals mg) (hfa : mg "law" = some (.ref fa)) (AT : AllTab tabNames K mg h)
    {fCheck : Addr} {odCheck anCheck : Option Addr} {slCheck : Array (Option Value)} {ocCheck kVCheck dcCheck pmCheck ctCheck : Value} {kCheck tCheck : Addr} {eeCheck : Value} {ddCheck : Option Addr} {vsCheck : Array Value} {ssCheck : Array (Option Value)}
    (aCheck : PySem.W.nsIn K mainGlobals "check_rows" = some (some (.ref fCheck))) (lCheck : K.lookup fCheck = some ⟨ocCheck, odCheck, .func (PySem.W.fnOf "check_rows" "check_rows" (defArgs sCheck) (defBody sCheck) (defScope sCheck) .none kVCheck dcCheck pmCheck anCheck (.ref kCheck) ctCheck), slCheck⟩) (cCheck : PySem.W.codeIn K (.ref kCheck) "check_rows" = true) (kCheck' : PySem.W.keepIn K (.ref fCheck) = true)
    (pCheck : K.lookup kCheck = some ⟨eeCheck, ddCheck, .fields vsCheck, ssCheck⟩) (qCheck : vsCheck[11]? = some (.ref tCheck)) (nCheck : K.lookup tCheck = none)
    {fWorth : Addr} {odWorth anWorth : Option Addr} {slWorth : Array (Option Value)} {ocWorth kVWorth dcWorth pmWorth ctWorth : Value} {kWorth tWorth : Addr} {eeWorth : Value} {ddWorth : Option Addr} {vsWorth : Array Value} {ssWorth : Array (Option Value)}
    (aWorth : PySem.W.nsIn K mainGlobals "worth" = some (some (.ref fWorth))) (lWorth : K.lookup fWorth = some ⟨ocWorth, odWorth, .func (PySem.W.fnOf "worth" "worth" (defArgs sWorth) (defBody sWorth) (defScope sWorth) .none kVWorth dcWorth pmWorth anWorth (.ref kWorth) ctWorth), slWorth⟩) (cWorth : PySem.W.codeIn K (.ref kWorth) "worth" = true) (kWorth' : PySem.W.keepIn K (.ref fWorth) = true)
    (pWorth : K.lookup kWorth = some ⟨eeWorth, ddWorth, .fields vsWorth, ssWorth⟩) (qWorth : vsWorth[11]? = some (.ref tWorth)) (nWorth : K.lookup tWorth = none)
    {fEnvies : Addr} {odEnvies anEnvies : Option Addr} {slEnvies : Array (Option Value)} {ocEnvies kVEnvies dcEnvies pmEnvies ctEnvies : Value} {cdEnvies : Value}
    (aEnvies : PySem.W.nsIn K mainGlobals "envies" = some (some (.ref fEnvies))) (lEnvies : K.lookup fEnvies = some ⟨ocEnvies, odEnvies, .func (PySem.W.fnOf "envies" "envies" (defArgs sEnvies) (defBody sEnvies) (defScope sEnvies) .none kVEnvies dcEnvies pmEnvies anEnvies cdEnvies ctEnvies), slEnvies⟩) (cEnvies : PySem.W.codeIn K cdEnvies "envies" = true) (kEnvies' : PySem.W.keepIn K (.ref fEnvies) = true)
    {fCalm : Addr} {odCalm anCalm : Option Addr} {slCalm : Array (Option Value)} {ocCalm kVCalm dcCalm pmCalm ctCalm : Value} {kCalm tCalm : Addr} {eeCalm : Value} {ddCalm : Option Addr} {vsCalm : Array Value} {ssCalm : Array (Option Value)}
    (aCalm : PySem.W.nsIn K mainGlobals "is_calm" = some (some (.ref fCalm))) (lCalm : K.lookup fCalm = some ⟨ocCalm, odCalm, .func (PySem.W.fnOf "is_calm" "is_calm" (defArgs sCalm) (defBody sCalm) (defScope sCalm) .none kVCalm dcCalm pmCalm anCalm (.ref kCalm) ctCalm), slCalm⟩) (cCalm : PySem.W.codeIn K (.ref kCalm) "is_calm" = true) (kCalm' : PySem.W.keepIn K (.ref fCalm) = true)
    (pCalm : K.lookup kCalm = some ⟨eeCalm, ddCalm, .fields vsCalm, ssCalm⟩) (qCalm : vsCalm[11]? = some (.ref tCalm)) (nCalm : K.lookup tCalm = none)
    {fBut : Addr} {odBut anBut : Option Addr} {slBut : Array (Option Value)} {ocBut kVBut dcBut pmBut ctBut : Value} {kBut tBut : Addr} {eeBut : Value} {ddBut : Option Addr} {vsBut : Array Value} {ssBut : Array (Option Value)}
    (aBut : PySem.W.nsIn K mainGlobals "but_one" = some (some (.ref fBut))) (lBut : K.lookup fBut = some ⟨ocBut, odBut, .func (PySem.W.fnOf "but_one" "but_one" (defArgs sBut) (defBody sBut) (defScope sBut) .none kVBut dcBut pmBut anBut (.ref kBut) ctBut), slBut⟩) (cBut : PySem.W.codeIn K (.ref kBut) "but_one" = true) (kBut' : PySem.W.keepIn K (.ref fBut) = true)
    (pBut : K.lookup kBut = some ⟨eeBut, ddBut, .fields vsBut, ssBut⟩) (qBut : vsBut[11]? = some (.ref tBut)) (nBut : K.lookup tBut = none)
    {fEnviers : Addr} {odEnviers anEnviers : Option Addr} {slEnviers : Array (Option Value)} {ocEnviers kVEnviers dcEnviers pmEnviers ctEnviers : Value} {cdEnviers : Value}
    (aEnviers : PySem.W.nsIn K mainGlobals "enviers" = some (some (.ref fEnviers))) (lEnviers : K.lookup fEnviers = some ⟨ocEnviers, odEnviers, .func (PySem.W.fnOf "enviers" "enviers" (defArgs sEnviers) (defBody sEnviers) (defScope sEnviers) .none kVEnviers dcEnviers pmEnviers anEnviers cdEnviers ctEnviers), slEnviers⟩) (cEnviers : PySem.W.codeIn K cdEnviers "enviers" = true) (kEnviers' : PySem.W.keepIn K (.ref fEnviers) = true)
    {fRing : Addr} {odRing anRing : Option Addr} {slRing : Array (Option Value)} {ocRing kVRing dcRing pmRing ctRing : Value} {cdRing : Value}
    (aRing : PySem.W.nsIn K mainGlobals "ring_of" = some (some (.ref fRing))) (lRing : K.lookup fRing = some ⟨ocRing, odRing, .func (PySem.W.fnOf "ring_of" "ring_of" (defArgs sRing) (defBody sRing) (defScope sRing) .none kVRing dcRing pmRing anRing cdRing ctRing), slRing⟩) (cRing : PySem.W.codeIn K cdRing "ring_of" = true) (kRing' : PySem.W.keepIn K (.ref fRing) = true)
    {fPassed : Addr} {odPassed anPassed : Option Addr} {slPassed : Array (Option Value)} {ocPassed kVPassed dcPassed pmPassed ctPassed : Value} {cdPassed : Value}
    (aPassed : PySem.W.nsIn K mainGlobals "passed" = some (some (.ref fPassed))) (lPassed : K.lookup fPassed = some ⟨ocPassed, odPassed, .func (PySem.W.fnOf "passed" "passed" (defArgs sPassed) (defBody sPassed) (defScope sPassed) .none kVPassed dcPassed pmPassed anPassed cdPassed ctPassed), slPassed⟩) (cPassed : PySem.W.codeIn K cdPassed "passed" = true) (kPassed' : PySem.W.keepIn K (.ref fPassed) = true)
    {fShare : Addr} {odShare anShare : Option Addr} {slShare : Array (Option Value)} {ocShare kVShare dcShare pmShare ctShare : Value} {cdShare : Value}
    (aShare : PySem.W.nsIn K mainGlobals "share" = some (some (.ref fShare))) (lShare : K.lookup fShare = some ⟨ocShare, odShare, .func (PySem.W.fnOf "share" "share" (defArgs sShare) (defBody sShare) (defScope sShare) .none kVShare dcShare pmShare anShare cdShare ctShare), slShare⟩) (cShare : PySem.W.codeIn K cdShare "share" = true) (kShare' : PySem.W.keepIn K (.ref fShare) = true)
    {fRounds : Addr} {odRounds anRounds : Option Addr} {slRounds : Array (Option Value)} {ocRounds kVRounds dcRounds pmRounds ctRounds : Value} {kRounds tRounds : Addr} {eeRounds : Value} {ddRounds : Option Addr} {vsRounds : Array Value} {ssRounds : Array (Option Value)}
    (aRounds : PySem.W.nsIn K mainGlobals "in_rounds" = some (some (.ref fRounds))) (lRounds : K.lookup fRounds = some ⟨ocRounds, odRounds, .func (PySem.W.fnOf "in_rounds" "in_rounds" (defArgs sRounds) (defBody sRounds) (defScope sRounds) .none kVRounds dcRounds pmRounds anRounds (.ref kRounds) ctRounds), slRounds⟩) (cRounds : PySem.W.codeIn K (.ref kRounds) "in_rounds" = true) (kRounds' : PySem.W.keepIn K (.ref fRounds) = true)
    (pRounds : K.lookup kRounds = some ⟨eeRounds, ddRounds, .fields vsRounds, ssRounds⟩) (qRounds : vsRounds[11]? = some (.ref tRounds)) (nRounds : K.lookup tRounds = none)
    {fGiven : Addr} {odGiven anGiven : Option Addr} {slGiven : Array (Option Value)} {ocGiven kVGiven dcGiven pmGiven ctGiven : Value} {cdGiven : Value}
    (aGiven : PySem.W.nsIn K mainGlobals "all_given" = some (some (.ref fGiven))) (lGiven : K.lookup fGiven = some ⟨ocGiven, odGiven, .func (PySem.W.fnOf "all_given" "all_given" (defArgs sGiven) (defBody sGiven) (defScope sGiven) .none kVGiven dcGiven pmGiven anGiven cdGiven ctGiven), slGiven⟩) (cGiven : PySem.W.codeIn K cdGiven "all_given" = true) (kGiven' : PySem.W.keepIn K (.ref fGiven) = true)
    {fLeast : Addr} {odLeast anLeast : Option Addr} {slLeast : Array (Option Value)} {ocLeast kVLeast dcLeast pmLeast ctLeast : Value} {cdLeast : Value}
    (aLeast : PySem.W.nsIn K mainGlobals "least_worth" = some (some (.ref fLeast))) (lLeast : K.lookup fLeast = some ⟨ocLeast, odLeast, .func (PySem.W.fnOf "least_worth" "least_worth" (defArgs sLeast) (defBody sLeast) (defScope sLeast) .none kVLeast dcLeast pmLeast anLeast cdLeast ctLeast), slLeast⟩) (cLeast : PySem.W.codeIn K cdLeast "least_worth" = true) (kLeast' : PySem.W.keepIn K (.ref fLeast) = true)
    {fPut : Addr} {odPut anPut : Option Addr} {slPut : Array (Option Value)} {ocPut kVPut dcPut pmPut ctPut : Value} {cdPut : Value}
    (aPut : PySem.W.nsIn K mainGlobals "put_on" = some (some (.ref fPut))) (lPut : K.lookup fPut = some ⟨ocPut, odPut, .func (PySem.W.fnOf "put_on" "put_on" (defArgs sPut) (defBody sPut) (defScope sPut) .none kVPut dcPut pmPut anPut cdPut ctPut), slPut⟩) (cPut : PySem.W.codeIn K cdPut "put_on" = true) (kPut' : PySem.W.keepIn K (.ref fPut) = true)
    {fFair : Addr} {odFair anFair : Option Addr} {slFair : Array (Option Value)} {ocFair kVFair dcFair pmFair ctFair : Value} {cdFair : Value}
    (aFair : PySem.W.nsIn K mainGlobals "fair_part" = some (some (.ref fFair))) (lFair : K.lookup fFair = some ⟨ocFair, odFair, .func (PySem.W.fnOf "fair_part" "fair_part" (defArgs sFair) (defBody sFair) (defScope sFair) .none kVFair dcFair pmFair anFair cdFair ctFair), slFair⟩) (cFair : PySem.W.codeIn K cdFair "fair_part" = true) (kFair' : PySem.W.keepIn K (.ref fFair) = true)
    {fLFlat : Addr} {odLFlat anLFlat : Option Addr} {slLFlat : Array (Option Value)} {ocLFlat kVLFlat dcLFlat pmLFlat ctLFlat : Value} {cdLFlat : Value}
    (aLFlat : PySem.W.nsIn K mainGlobals "_law_flat" = some (some (.ref fLFlat))) (lLFlat : K.lookup fLFlat = some ⟨ocLFlat, odLFlat, .func (PySem.W.fnOf "_law_flat" "_law_flat" (defArgs sLFlat) (defBody sLFlat) (defScope sLFlat) .none kVLFlat dcLFlat pmLFlat anLFlat cdLFlat ctLFlat), slLFlat⟩) (cLFlat : PySem.W.codeIn K cdLFlat "_law_flat" = true) (kLFlat' : PySem.W.keepIn K (.ref fLFlat) = true)
    {fLDice : Addr} {odLDice anLDice : Option Addr} {slLDice : Array (Option Value)} {ocLDice kVLDice dcLDice pmLDice ctLDice : Value} {cdLDice : Value}
    (aLDice : PySem.W.nsIn K mainGlobals "_law_dice" = some (some (.ref fLDice))) (lLDice : K.lookup fLDice = some ⟨ocLDice, odLDice, .func (PySem.W.fnOf "_law_dice" "_law_dice" (defArgs sLDice) (defBody sLDice) (defScope sLDice) .none kVLDice dcLDice pmLDice anLDice cdLDice ctLDice), slLDice⟩) (cLDice : PySem.W.codeIn K cdLDice "_law_dice" = true) (kLDice' : PySem.W.keepIn K (.ref fLDice) = true)
    {fLRoll : Addr} {odLRoll anLRoll : Option Addr} {slLRoll : Array (Option Value)} {ocLRoll kVLRoll dcLRoll pmLRoll ctLRoll : Value} {cdLRoll : Value}
    (aLRoll : PySem.W.nsIn K mainGlobals "_law_roll" = some (some (.ref fLRoll))) (lLRoll : K.lookup fLRoll = some ⟨ocLRoll, odLRoll, .func (PySem.W.fnOf "_law_roll" "_law_roll" (defArgs sLRoll) (defBody sLRoll) (defScope sLRoll) .none kVLRoll dcLRoll pmLRoll anLRoll cdLRoll ctLRoll), slLRoll⟩) (cLRoll : PySem.W.codeIn K cdLRoll "_law_roll" = true) (kLRoll' : PySem.W.keepIn K (.ref fLRoll) = true)
    {fLRounds : Addr} {odLRounds anLRounds : Option Addr} {slLRounds : Array (Option Value)} {ocLRounds kVLRounds dcLRounds pmLRounds ctLRounds : Value} {cdLRounds : Value}
    (aLRounds : PySem.W.nsIn K mainGlobals "_law_rounds" = some (some (.ref fLRounds))) (lLRounds : K.lookup fLRounds = some ⟨ocLRounds, odLRounds, .func (PySem.W.fnOf "_law_rounds" "_law_rounds" (defArgs sLRounds) (defBody sLRounds) (defScope sLRounds) .none kVLRounds dcLRounds pmLRounds anLRounds cdLRounds ctLRounds), slLRounds⟩) (cLRounds : PySem.W.codeIn K cdLRounds "_law_rounds" = true) (kLRounds' : PySem.W.keepIn K (.ref fLRounds) = true)
    {fLTold : Addr} {odLTold anLTold : Option Addr} {slLTold : Array (Option Value)} {ocLTold kVLTold dcLTold pmLTold ctLTold : Value} {cdLTold : Value}
    (aLTold : PySem.W.nsIn K mainGlobals "_law_told" = some (some (.ref fLTold))) (lLTold : K.lookup fLTold = some ⟨ocLTold, odLTold, .func (PySem.W.fnOf "_law_told" "_law_told" (defArgs sLTold) (defBody sLTold) (defScope sLTold) .none kVLTold dcLTold pmLTold anLTold cdLTold ctLTold), slLTold⟩) (cLTold : PySem.W.codeIn K cdLTold "_law_told" = true) (kLTold' : PySem.W.keepIn K (.ref fLTold) = true)
    {fLWorth : Addr} {odLWorth anLWorth : Option Addr} {slLWorth : Array (Option Value)} {ocLWorth kVLWorth dcLWorth pmLWorth ctLWorth : Value} {cdLWorth : Value}
    (aLWorth : PySem.W.nsIn K mainGlobals "_law_worth" = some (some (.ref fLWorth))) (lLWorth : K.lookup fLWorth = some ⟨ocLWorth, odLWorth, .func (PySem.W.fnOf "_law_worth" "_law_worth" (defArgs sLWorth) (defBody sLWorth) (defScope sLWorth) .none kVLWorth dcLWorth pmLWorth anLWorth cdLWorth ctLWorth), slLWorth⟩) (cLWorth : PySem.W.codeIn K cdLWorth "_law_worth" = true) (kLWorth' : PySem.W.keepIn K (.ref fLWorth) = true)
    {fLBut : Addr} {odLBut anLBut : Option Addr} {slLBut : Array (Option Value)} {ocLBut kVLBut dcLBut pmLBut ctLBut : Value} {cdLBut : Value}
    (aLBut : PySem.W.nsIn K mainGlobals "_law_but_one" = some (some (.ref fLBut))) (lLBut : K.lookup fLBut = some ⟨ocLBut, odLBut, .func (PySem.W.fnOf "_law_but_one" "_law_but_one" (defArgs sLBut) (defBody sLBut) (defScope sLBut) .none kVLBut dcLBut pmLBut anLBut cdLBut ctLBut), slLBut⟩) (cLBut : PySem.W.codeIn K cdLBut "_law_but_one" = true) (kLBut' : PySem.W.keepIn K (.ref fLBut) = true)
    {fLaw : Addr} {odLaw anLaw : Option Addr} {slLaw : Array (Option Value)} {ocLaw kVLaw dcLaw pmLaw ctLaw : Value} {kLaw tLaw : Addr} {eeLaw : Value} {ddLaw : Option Addr} {vsLaw : Array Value} {ssLaw : Array (Option Value)}
    (aLaw : PySem.W.nsIn K mainGlobals "law" = some (some (.ref fLaw))) (lLaw : K.lookup fLaw = some ⟨ocLaw, odLaw, .func (PySem.W.fnOf "law" "law" (defArgs sLaw) (defBody sLaw) (defScope sLaw) .none kVLaw dcLaw pmLaw anLaw (.ref kLaw) ctLaw), slLaw⟩) (cLaw : PySem.W.codeIn K (.ref kLaw) "law" = true) (kLaw' : PySem.W.keepIn K (.ref fLaw) = true)
    (pLaw : K.lookup kLaw = some ⟨eeLaw, ddLaw, .fields vsLaw, ssLaw⟩) (qLaw : vsLaw[11]? = some (.ref tLaw)) (nLaw : K.lookup tLaw = none)
    (z_any : PySem.W.nsIn K mainGlobals "any" = some none)
    (z_len : PySem.W.nsIn K mainGlobals "len" = some none)
    (z_tuple : PySem.W.nsIn K mainGlobals "tuple" = some none)
    (z_sum : PySem.W.nsIn K mainGlobals "sum" = some none)
    (z_range : PySem.W.nsIn K mainGlobals "range" = some none)
    (z_max : PySem.W.nsIn K mainGlobals "max" = some none)
    (z_enumerate : PySem.W.nsIn K mainGlobals "enumerate" = some none)
    (z_list : PySem.W.nsIn K mainGlobals "list" = some none)
    (z_reversed : PySem.W.nsIn K mainGlobals "reversed" = some none)
    (z_min : PySem.W.nsIn K mainGlobals "min" = some none)
    (z_sorted : PySem.W.nsIn K mainGlobals "sorted" = some none)
    (z_zip : PySem.W.nsIn K mainGlobals "zip" = some none)
    (z_abs : PySem.W.nsIn K mainGlobals "abs" = some none)
    (z_int : PySem.W.nsIn K mainGlobals "int" = some none)
    {CBadWish : Addr} (gBadWish : PySem.W.nsIn K mainGlobals "BadWish" = some (some (.ref CBadWish)))
    {CBadRoom : Addr} (gBadRoom : PySem.W.nsIn K mainGlobals "BadRoom" = some (some (.ref CBadRoom)))
    {CBadMatch : Addr} (gBadMatch : PySem.W.nsIn K mainGlobals "BadMatch" = some (some (.ref CBadMatch)))
    {CBadPaper : Addr} (gBadPaper : PySem.W.nsIn K mainGlobals "BadPaper" = some (some (.ref CBadPaper)))
    {CBadSize : Addr} (gBadSize : PySem.W.nsIn K mainGlobals "BadSize" = some (some (.ref CBadSize)))
    {CBadText : Addr} (gBadText : PySem.W.nsIn K mainGlobals "BadText" = some (some (.ref CBadText)))
    {CBadStore : Addr} (gBadStore : PySem.W.nsIn K mainGlobals "BadStore" = some (some (.ref CBadStore)))
    {CNoSuch : Addr} (gNoSuch : PySem.W.nsIn K mainGlobals "NoSuch" = some (some (.ref CNoSuch)))
    {CBadDeed : Addr} (gBadDeed : PySem.W.nsIn K mainGlobals "BadDeed" = some (some (.ref CBadDeed)))
    (ex1 : PySem.W.excIn K CBadSize [.type "ValueError", .type "Exception", .type "BaseException", .type "object"] "ValueError.__new__" = true) (ex2 : PySem.W.keepIn K (.ref CBadSize) = true) (ex3 : PySem.W.subIn K (.ref CBadSize) (.type "BaseException") = some true) (ex4 : PySem.W.typeIn K (.ref CBadSize) = some (.type "type"))
    (eBadWish : PySem.W.exmOne K (.ref CBadSize) (.ref CBadWish) = some false)
    (eBadRoom : PySem.W.exmOne K (.ref CBadSize) (.ref CBadRoom) = some false)
    (eBadMatch : PySem.W.exmOne K (.ref CBadSize) (.ref CBadMatch) = some false)
    (eBadPaper : PySem.W.exmOne K (.ref CBadSize) (.ref CBadPaper) = some false)
    (eBadSize : PySem.W.exmOne K (.ref CBadSize) (.ref CBadSize) = some true)
    (nd : [tWorth, tCheck, tCalm, tBut, tRounds, tLaw].Nodup) :
    LamX.LawAtS l w K CX0 30 63 "_law_script" mg fa h := by
  have e := hfa.symm.trans (PySem.W.mg_of X G aLaw)
  cases e
  have FCheck := fun_mk (st := sCheck) lCheck cCheck kCheck'
  have bCheck := FCheck.binds (ps := ["rows"]) fun _ _ _ _ _ _ us hl => match us, hl with | [_], _ => rfl
  have FWorth := fun_mk (st := sWorth) lWorth cWorth kWorth'
  have bWorth := FWorth.binds (ps := ["row", "things"]) fun _ _ _ _ _ _ us hl => match us, hl with | [_, _], _ => rfl
  have FEnvies := fun_mk (st := sEnvies) lEnvies cEnvies kEnvies'
  have bEnvies := FEnvies.binds (ps := ["rows", "lots", "one", "other"]) fun _ _ _ _ _ _ us hl => match us, hl with | [_, _, _, _], _ => rfl
  have FCalm := fun_mk (st := sCalm) lCalm cCalm kCalm'
  have bCalm := FCalm.binds (ps := ["rows", "lots"]) fun _ _ _ _ _ _ us hl => match us, hl with | [_, _], _ => rfl
  have FBut := fun_mk (st := sBut) lBut cBut kBut'
  have bBut := FBut.binds (ps := ["rows", "lots"]) fun _ _ _ _ _ _ us hl => match us, hl with | [_, _], _ => rfl
  have FEnviers := fun_mk (st := sEnviers) lEnviers cEnviers kEnviers'
  have bEnviers := FEnviers.binds (ps := ["rows", "lots"]) fun _ _ _ _ _ _ us hl => match us, hl with | [_, _], _ => rfl
  have FRing := fun_mk (st := sRing) lRing cRing kRing'
  have bRing := FRing.binds (ps := ["backs"]) fun _ _ _ _ _ _ us hl => match us, hl with | [_], _ => rfl
  have FPassed := fun_mk (st := sPassed) lPassed cPassed kPassed'
  have bPassed := FPassed.binds (ps := ["lots", "ring"]) fun _ _ _ _ _ _ us hl => match us, hl with | [_, _], _ => rfl
  have FShare := fun_mk (st := sShare) lShare cShare kShare'
  have bShare := FShare.binds (ps := ["rows"]) fun _ _ _ _ _ _ us hl => match us, hl with | [_], _ => rfl
  have FRounds := fun_mk (st := sRounds) lRounds cRounds kRounds'
  have bRounds := FRounds.binds (ps := ["rows", "order"]) fun _ _ _ _ _ _ us hl => match us, hl with | [_, _], _ => rfl
  have FGiven := fun_mk (st := sGiven) lGiven cGiven kGiven'
  have bGiven := FGiven.binds (ps := ["rows", "lots"]) fun _ _ _ _ _ _ us hl => match us, hl with | [_, _], _ => rfl
  have FLeast := fun_mk (st := sLeast) lLeast cLeast kLeast'
  have bLeast := FLeast.binds (ps := ["rows", "lots"]) fun _ _ _ _ _ _ us hl => match us, hl with | [_, _], _ => rfl
  have FPut := fun_mk (st := sPut) lPut cPut kPut'
  have bPut := FPut.binds (ps := ["sums", "place", "much"]) fun _ _ _ _ _ _ us hl => match us, hl with | [_, _, _], _ => rfl
  have FFair := fun_mk (st := sFair) lFair cFair kFair'
  have bFair := FFair.binds (ps := ["rows", "one"]) fun _ _ _ _ _ _ us hl => match us, hl with | [_, _], _ => rfl
  have FLFlat := fun_mk (st := sLFlat) lLFlat cLFlat kLFlat'
  have bLFlat := FLFlat.binds (ps := ["_law_rows"]) fun _ _ _ _ _ _ us hl => match us, hl with | [_], _ => rfl
  have FLDice := fun_mk (st := sLDice) lLDice cLDice kLDice'
  have bLDice := FLDice.binds (ps := ["_law_cell"]) fun _ _ _ _ _ _ us hl => match us, hl with | [_], _ => rfl
  have FLRoll := fun_mk (st := sLRoll) lLRoll cLRoll kLRoll'
  have bLRoll := FLRoll.binds (ps := ["_law_dice_here", "_law_many"]) fun _ _ _ _ _ _ us hl => match us, hl with | [_, _], _ => rfl
  have FLRounds := fun_mk (st := sLRounds) lLRounds cLRounds kLRounds'
  have bLRounds := FLRounds.binds (ps := ["_law_script", "_law_most_now"]) fun _ _ _ _ _ _ us hl => match us, hl with | [_, _], _ => rfl
  have FLTold := fun_mk (st := sLTold) lLTold cLTold kLTold'
  have bLTold := FLTold.binds (ps := ["_law_what"]) fun _ _ _ _ _ _ us hl => match us, hl with | [_], _ => rfl
  have FLWorth := fun_mk (st := sLWorth) lLWorth cLWorth kLWorth'
  have bLWorth := FLWorth.binds (ps := ["_law_row", "_law_lot"]) fun _ _ _ _ _ _ us hl => match us, hl with | [_, _], _ => rfl
  have FLBut := fun_mk (st := sLBut) lLBut cLBut kLBut'
  have bLBut := FLBut.binds (ps := ["_law_rows", "_law_lots"]) fun _ _ _ _ _ _ us hl => match us, hl with | [_, _], _ => rfl
  have FLaw := fun_mk (st := sLaw) lLaw cLaw kLaw'
  have bLaw := FLaw.binds (ps := ["_law_script"]) fun _ _ _ _ _ _ us hl => match us, hl with | [_], _ => rfl
  let D : Defs K mg := {
    fCheck := fCheck, dCheck := _, FCheck := FCheck, mCheck := PySem.W.mg_of X G aCheck, bCheck := bCheck,
    fWorth := fWorth, dWorth := _, FWorth := FWorth, mWorth := PySem.W.mg_of X G aWorth, bWorth := bWorth,
    fEnvies := fEnvies, dEnvies := _, FEnvies := FEnvies, mEnvies := PySem.W.mg_of X G aEnvies, bEnvies := bEnvies,
    fCalm := fCalm, dCalm := _, FCalm := FCalm, mCalm := PySem.W.mg_of X G aCalm, bCalm := bCalm,
    fBut := fBut, dBut := _, FBut := FBut, mBut := PySem.W.mg_of X G aBut, bBut := bBut,
    fEnviers := fEnviers, dEnviers := _, FEnviers := FEnviers, mEnviers := PySem.W.mg_of X G aEnviers, bEnviers := bEnviers,
    fRing := fRing, dRing := _, FRing := FRing, mRing := PySem.W.mg_of X G aRing, bRing := bRing,
    fPassed := fPassed, dPassed := _, FPassed := FPassed, mPassed := PySem.W.mg_of X G aPassed, bPassed := bPassed,
    fShare := fShare, dShare := _, FShare := FShare, mShare := PySem.W.mg_of X G aShare, bShare := bShare,
    fRounds := fRounds, dRounds := _, FRounds := FRounds, mRounds := PySem.W.mg_of X G aRounds, bRounds := bRounds,
    fGiven := fGiven, dGiven := _, FGiven := FGiven, mGiven := PySem.W.mg_of X G aGiven, bGiven := bGiven,
    fLeast := fLeast, dLeast := _, FLeast := FLeast, mLeast := PySem.W.mg_of X G aLeast, bLeast := bLeast,
    fPut := fPut, dPut := _, FPut := FPut, mPut := PySem.W.mg_of X G aPut, bPut := bPut,
    fFair := fFair, dFair := _, FFair := FFair, mFair := PySem.W.mg_of X G aFair, bFair := bFair,
    fLFlat := fLFlat, dLFlat := _, FLFlat := FLFlat, mLFlat := PySem.W.mg_of X G aLFlat, bLFlat := bLFlat,
    fLDice := fLDice, dLDice := _, FLDice := FLDice, mLDice := PySem.W.mg_of X G aLDice, bLDice := bLDice,
    fLRoll := fLRoll, dLRoll := _, FLRoll := FLRoll, mLRoll := PySem.W.mg_of X G aLRoll, bLRoll := bLRoll,
    fLRounds := fLRounds, dLRounds := _, FLRounds := FLRounds, mLRounds := PySem.W.mg_of X G aLRounds, bLRounds := bLRounds,
    fLTold := fLTold, dLTold := _, FLTold := FLTold, mLTold := PySem.W.mg_of X G aLTold, bLTold := bLTold,
    fLWorth := fLWorth, dLWorth := _, FLWorth := FLWorth, mLWorth := PySem.W.mg_of X G aLWorth, bLWorth := bLWorth,
    fLBut := fLBut, dLBut := _, FLBut := FLBut, mLBut := PySem.W.mg_of X G aLBut, bLBut := bLBut,
    fLaw := fa, dLaw := _, FLaw := FLaw, mLaw := PySem.W.mg_of X G aLaw, bLaw := bLaw,
    z_any := PySem.W.mg_none_of X G z_any,
    z_len := PySem.W.mg_none_of X G z_len,
    z_tuple := PySem.W.mg_none_of X G z_tuple,
    z_sum := PySem.W.mg_none_of X G z_sum,
    z_range := PySem.W.mg_none_of X G z_range,
    z_max := PySem.W.mg_none_of X G z_max,
    z_enumerate := PySem.W.mg_none_of X G z_enumerate,
    z_list := PySem.W.mg_none_of X G z_list,
    z_reversed := PySem.W.mg_none_of X G z_reversed,
    z_min := PySem.W.mg_none_of X G z_min,
    z_sorted := PySem.W.mg_none_of X G z_sorted,
    z_zip := PySem.W.mg_none_of X G z_zip,
    z_abs := PySem.W.mg_none_of X G z_abs,
    z_int := PySem.W.mg_none_of X G z_int,
    cBadWish := CBadWish, gBadWish := PySem.W.mg_of X G gBadWish,
    cBadRoom := CBadRoom, gBadRoom := PySem.W.mg_of X G gBadRoom,
    cBadMatch := CBadMatch, gBadMatch := PySem.W.mg_of X G gBadMatch,
    cBadPaper := CBadPaper, gBadPaper := PySem.W.mg_of X G gBadPaper,
    cBadSize := CBadSize, gBadSize := PySem.W.mg_of X G gBadSize,
    cBadText := CBadText, gBadText := PySem.W.mg_of X G gBadText,
    cBadStore := CBadStore, gBadStore := PySem.W.mg_of X G gBadStore,
    cNoSuch := CNoSuch, gNoSuch := PySem.W.mg_of X G gNoSuch,
    cBadDeed := CBadDeed, gBadDeed := PySem.W.mg_of X G gBadDeed,
    ex := ⟨ex1, PySem.W.mg_of X G gBadSize, ex2, ex3, ex4⟩,
    eBadWish := eBadWish,
    eBadRoom := eBadRoom,
    eBadMatch := eBadMatch,
    eBadPaper := eBadPaper,
    eBadSize := eBadSize,
    kWorth := kWorth, tWorth := tWorth, hWorth := rfl,
    kCheck := kCheck, tCheck := tCheck, hCheck := rfl,
    kCalm := kCalm, tCalm := tCalm, hCalm := rfl,
    kBut := kBut, tBut := tBut, hBut := rfl,
    kRounds := kRounds, tRounds := tRounds, hRounds := rfl,
    kLaw := kLaw, tLaw := tLaw, hLaw := rfl }
  have hT : ∀ p ∈ D.cs, h.get? p.2 = some { cls := .none, data := .fields #[] } ∧ PySem.W.CodeHd h p.1 p.2 ∧ K.lookup p.2 = none := fun p hp => by
    unfold Defs.cs at hp
    simp only [List.mem_cons, List.not_mem_nil, or_false] at hp
    rcases hp with z | z | z | z | z | z <;> subst z
    · obtain ⟨u1, u2⟩ := AT "worth" (by decide) fWorth kWorth tWorth _ _ _ _ _ _ (PySem.W.mg_of X G aWorth) lWorth rfl rfl pWorth qWorth
      exact ⟨u1, u2, nWorth⟩
    · obtain ⟨u1, u2⟩ := AT "check_rows" (by decide) fCheck kCheck tCheck _ _ _ _ _ _ (PySem.W.mg_of X G aCheck) lCheck rfl rfl pCheck qCheck
      exact ⟨u1, u2, nCheck⟩
    · obtain ⟨u1, u2⟩ := AT "is_calm" (by decide) fCalm kCalm tCalm _ _ _ _ _ _ (PySem.W.mg_of X G aCalm) lCalm rfl rfl pCalm qCalm
      exact ⟨u1, u2, nCalm⟩
    · obtain ⟨u1, u2⟩ := AT "but_one" (by decide) fBut kBut tBut _ _ _ _ _ _ (PySem.W.mg_of X G aBut) lBut rfl rfl pBut qBut
      exact ⟨u1, u2, nBut⟩
    · obtain ⟨u1, u2⟩ := AT "in_rounds" (by decide) fRounds kRounds tRounds _ _ _ _ _ _ (PySem.W.mg_of X G aRounds) lRounds rfl rfl pRounds qRounds
      exact ⟨u1, u2, nRounds⟩
    · obtain ⟨u1, u2⟩ := AT "law" (by decide) fa kLaw tLaw _ _ _ _ _ _ (PySem.W.mg_of X G aLaw) lLaw rfl rfl pLaw qLaw
      exact ⟨u1, u2, nLaw⟩
  refine ⟨D.dLaw, D.cs, spLaw K D.T, fun p hp => (hT p hp).1, fun p hp => (hT p hp).2.2, fun p hp => (hT p hp).2.1, fun s v => .of_eq rfl, fun H a ns hl _ hH hS => ⟨a, ns, rfl, hS, hl, D.tabs0 hH, fun _ => rfl⟩, fun base _ _ hB => ?_⟩
  exact ok_law D (D.ok_of nd hB)
end PM
open PySem PySem.W PyProof.Rows
set_option maxHeartbeats 0 in
theorem PySem.Challenge.cw_pairmart_k21_things_given_whole_holds : PySem.Challenge.rw_pairmart_k21_things_given_whole.Holds := by
  w_on; o_law; k_head; (case hw => w_witness2)
  k_fill
  refine PM.walk_ofAll (l := PySem.Challenge.rw_pairmart_k21_things_given_whole) (n := 63) (k := 30) (x := "_law_script") (CX := fun _ => L2.CX0) PM.tabNames rfl (by decide) rfl ⟨rfl, by decide, by decide⟩ (by decide +kernel) (fun w h Y => by first | exact PySem.W.km_in_of Y | exact PySem.W.kIn_of Y) ?F (fun _ _ _ _ _ h => h)
  case F =>
    intro w mg fa h YX KX G hmg AT
    refine' PM.all_mk KX G hmg AT ?aCheck ?lCheck ?cCheck ?kCheck' ?pCheck ?qCheck ?nCheck ?aWorth ?lWorth ?cWorth ?kWorth' ?pWorth ?qWorth ?nWorth ?aEnvies ?lEnvies ?cEnvies ?kEnvies' ?aCalm ?lCalm ?cCalm ?kCalm' ?pCalm ?qCalm ?nCalm ?aBut ?lBut ?cBut ?kBut' ?pBut ?qBut ?nBut ?aEnviers ?lEnviers ?cEnviers ?kEnviers' ?aRing ?lRing ?cRing ?kRing' ?aPassed ?lPassed ?cPassed ?kPassed' ?aShare ?lShare ?cShare ?kShare' ?aRounds ?lRounds ?cRounds ?kRounds' ?pRounds ?qRounds ?nRounds ?aGiven ?lGiven ?cGiven ?kGiven' ?aLeast ?lLeast ?cLeast ?kLeast' ?aPut ?lPut ?cPut ?kPut' ?aFair ?lFair ?cFair ?kFair' ?aLFlat ?lLFlat ?cLFlat ?kLFlat' ?aLDice ?lLDice ?cLDice ?kLDice' ?aLRoll ?lLRoll ?cLRoll ?kLRoll' ?aLRounds ?lLRounds ?cLRounds ?kLRounds' ?aLTold ?lLTold ?cLTold ?kLTold' ?aLWorth ?lLWorth ?cLWorth ?kLWorth' ?aLBut ?lLBut ?cLBut ?kLBut' ?aLaw ?lLaw ?cLaw ?kLaw' ?pLaw ?qLaw ?nLaw ?z_any ?z_len ?z_tuple ?z_sum ?z_range ?z_max ?z_enumerate ?z_list ?z_reversed ?z_min ?z_sorted ?z_zip ?z_abs ?z_int ?gBadWish ?gBadRoom ?gBadMatch ?gBadPaper ?gBadSize ?gBadText ?gBadStore ?gNoSuch ?gBadDeed ?ex1 ?ex2 ?ex3 ?ex4 ?eBadWish ?eBadRoom ?eBadMatch ?eBadPaper ?eBadSize ?nd
    (case aCheck => k_is)
    (case lCheck => k_is)
    (case cCheck => k_is)
    (case kCheck' => k_is)
    (case pCheck => k_is)
    (case qCheck => first | rfl | k_is | decide +kernel)
    (case nCheck => first | rfl | decide +kernel | kernel_rfl | skip)
    (case aWorth => k_is)
    (case lWorth => k_is)
    (case cWorth => k_is)
    (case kWorth' => k_is)
    (case pWorth => k_is)
    (case qWorth => first | rfl | k_is | decide +kernel)
    (case nWorth => first | rfl | decide +kernel | kernel_rfl | skip)
    (case aEnvies => k_is)
    (case lEnvies => k_is)
    (case cEnvies => k_is)
    (case kEnvies' => k_is)
    (case aCalm => k_is)
    (case lCalm => k_is)
    (case cCalm => k_is)
    (case kCalm' => k_is)
    (case pCalm => k_is)
    (case qCalm => first | rfl | k_is | decide +kernel)
    (case nCalm => first | rfl | decide +kernel | kernel_rfl | skip)
    (case aBut => k_is)
    (case lBut => k_is)
    (case cBut => k_is)
    (case kBut' => k_is)
    (case pBut => k_is)
    (case qBut => first | rfl | k_is | decide +kernel)
    (case nBut => first | rfl | decide +kernel | kernel_rfl | skip)
    (case aEnviers => k_is)
    (case lEnviers => k_is)
    (case cEnviers => k_is)
    (case kEnviers' => k_is)
    (case aRing => k_is)
    (case lRing => k_is)
    (case cRing => k_is)
    (case kRing' => k_is)
    (case aPassed => k_is)
    (case lPassed => k_is)
    (case cPassed => k_is)
    (case kPassed' => k_is)
    (case aShare => k_is)
    (case lShare => k_is)
    (case cShare => k_is)
    (case kShare' => k_is)
    (case aRounds => k_is)
    (case lRounds => k_is)
    (case cRounds => k_is)
    (case kRounds' => k_is)
    (case pRounds => k_is)
    (case qRounds => first | rfl | k_is | decide +kernel)
    (case nRounds => first | rfl | decide +kernel | kernel_rfl | skip)
    (case aGiven => k_is)
    (case lGiven => k_is)
    (case cGiven => k_is)
    (case kGiven' => k_is)
    (case aLeast => k_is)
    (case lLeast => k_is)
    (case cLeast => k_is)
    (case kLeast' => k_is)
    (case aPut => k_is)
    (case lPut => k_is)
    (case cPut => k_is)
    (case kPut' => k_is)
    (case aFair => k_is)
    (case lFair => k_is)
    (case cFair => k_is)
    (case kFair' => k_is)
    (case aLFlat => k_is)
    (case lLFlat => k_is)
    (case cLFlat => k_is)
    (case kLFlat' => k_is)
    (case aLDice => k_is)
    (case lLDice => k_is)
    (case cLDice => k_is)
    (case kLDice' => k_is)
    (case aLRoll => k_is)
    (case lLRoll => k_is)
    (case cLRoll => k_is)
    (case kLRoll' => k_is)
    (case aLRounds => k_is)
    (case lLRounds => k_is)
    (case cLRounds => k_is)
    (case kLRounds' => k_is)
    (case aLTold => k_is)
    (case lLTold => k_is)
    (case cLTold => k_is)
    (case kLTold' => k_is)
    (case aLWorth => k_is)
    (case lLWorth => k_is)
    (case cLWorth => k_is)
    (case kLWorth' => k_is)
    (case aLBut => k_is)
    (case lLBut => k_is)
    (case cLBut => k_is)
    (case kLBut' => k_is)
    (case aLaw => k_is)
    (case lLaw => k_is)
    (case cLaw => k_is)
    (case kLaw' => k_is)
    (case pLaw => k_is)
    (case qLaw => first | rfl | k_is | decide +kernel)
    (case nLaw => first | rfl | decide +kernel | kernel_rfl | skip)
    (case z_any => k_is)
    (case z_len => k_is)
    (case z_tuple => k_is)
    (case z_sum => k_is)
    (case z_range => k_is)
    (case z_max => k_is)
    (case z_enumerate => k_is)
    (case z_list => k_is)
    (case z_reversed => k_is)
    (case z_min => k_is)
    (case z_sorted => k_is)
    (case z_zip => k_is)
    (case z_abs => k_is)
    (case z_int => k_is)
    (case gBadWish => k_is)
    (case gBadRoom => k_is)
    (case gBadMatch => k_is)
    (case gBadPaper => k_is)
    (case gBadSize => k_is)
    (case gBadText => k_is)
    (case gBadStore => k_is)
    (case gNoSuch => k_is)
    (case gBadDeed => k_is)
    (case ex1 => first | k_exc | k_is)
    (case ex2 => k_is)
    (case ex3 => k_is)
    (case ex4 => k_is)
    (case eBadWish => first | rfl | decide +kernel | kernel_rfl | skip)
    (case eBadRoom => first | rfl | decide +kernel | kernel_rfl | skip)
    (case eBadMatch => first | rfl | decide +kernel | kernel_rfl | skip)
    (case eBadPaper => first | rfl | decide +kernel | kernel_rfl | skip)
    (case eBadSize => first | rfl | decide +kernel | kernel_rfl | skip)
    (case nd => decide)
