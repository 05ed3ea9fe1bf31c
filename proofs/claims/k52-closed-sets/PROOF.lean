import PyProof.Rows.All
import Wide.All
import OpenK.AllK
import Wide.FinOn
import PyProof.Finish
import PyProof.Gen
import Open.Head
import HandS.GenOver
import HandS.GenYield
import HandS.GenList
import HandS.ForMost
import HandS.Star
import HandS.Deep
import HandS.Conv
import HandS.IsInst
import HandS.Codes
import KE.GoesEnum
import KE.GoesMore
import HandS.Strs
import HandS.Wide
import HandS.TupSets
import KE.KDictCopyH
import KE.KDictSum
import PyProof.Rows.TupDisplay
import PyProof.DictRoadsH
import HandS.Zip
import HandS.DictComp
import KE.KRevSl
import HandS.SlotsOwn
import PyProof.FitsReplace
import HandS.ClsMeth
import HandS.TupAny
import PySem.Challenge.RW_pieceround_k52_whole_closed_sets_bar_wal
set_option Elab.async false
section
set_option linter.all false
set_option maxRecDepth 100000
/-! A logic beside the library's own, at the machine's level: runs in which a delegator may sleep over a generator. -/
namespace Cf
open PySem Sem

/-- a yield of «yield from» over a generator, where nothing else is to be done as it sleeps -/
def Mild (s : Shared) (t : Thread) : Prop :=
  ∃ v l k a more kw p st fs b rest o n, t = ⟨.yield v true l k, .builtin "proto.yield_from" ⟨.ref a :: more, kw⟩, p, st⟩ ∧
    splitAtGen st = some (fs, b, rest) ∧ fs.any Frame.guarded = false ∧ s.heap.get? a = some o ∧ o.genNumber? = some n
def Fair (s : Shared) (t : Thread) : Prop := t.calm = true ∨ Mild s t

section
variable (M : Model)
inductive Go : Shared → Thread → Shared → Thread → Prop
  | here (s : Shared) (t : Thread) : Go s t s t
  | next {s t s₁ t₁ s₂ t₂} (f : Fair s t) (e : stepK M.den M.prog M.w s t = .go s₁ t₁) (r : Go s₁ t₁ s₂ t₂) : Go s t s₂ t₂
/-- it comes to P -/
def Ev (P : Shared → Thread → Prop) (s : Shared) (t : Thread) : Prop := ∃ s' t', Go M s t s' t' ∧ P s' t'
end

variable {M : Model}
theorem Go.trans {s t s₁ t₁ s₂ t₂} (a : Go M s t s₁ t₁) (b : Go M s₁ t₁ s₂ t₂) : Go M s t s₂ t₂ := by
  induction a with
  | here => exact b
  | next f e _ ih => exact .next f e (ih b)
theorem Ev.of_go {P : Shared → Thread → Prop} {s t s₁ t₁} (a : Go M s t s₁ t₁) (h : Ev M P s₁ t₁) : Ev M P s t :=
  let ⟨s', t', g, q⟩ := h; ⟨s', t', a.trans g, q⟩
theorem Ev.now {P : Shared → Thread → Prop} {s t} (h : P s t) : Ev M P s t := ⟨s, t, .here _ _, h⟩

/-- a step of the library's own machine -/
theorem calm_of_step {s : Shared} {t : Thread} {s₁ : Shared} {t₁ : Thread} (e : M.step s t = .go s₁ t₁) :
    t.calm = true ∧ stepK M.den M.prog M.w s t = .go s₁ t₁ := by
  have hl : t.loud = false := by
    cases q : t.loud with
    | false => rfl
    | true =>
      rw [M.step_loud q] at e
      cases e
  rw [M.step_quiet hl] at e
  refine ⟨?_, e⟩
  rw [Thread.calm_eq, hl]
  cases q : t.refused with
  | false => rfl
  | true =>
    obtain ⟨what, z⟩ := stepK_refused M.den M.prog M.w (s := s) q
    rw [z] at e
    cases e
theorem Ev.step {P : Shared → Thread → Prop} {s t s₁ t₁} (e : M.step s t = .go s₁ t₁) (h : Ev M P s₁ t₁) : Ev M P s t :=
  let ⟨a, b⟩ := calm_of_step e
  h.of_go (.next (.inl a) b (.here _ _))
theorem go_of_comes {s t s₁ t₁} (h : Comes M s t s₁ t₁) : Go M s t s₁ t₁ := by
  obtain ⟨n, hn⟩ := h
  induction n generalizing s t with
  | zero =>
    have e : Run.running s t = Run.running s₁ t₁ := hn
    cases e
    exact .here _ _
  | succ n ih =>
    rw [runN_succ] at hn
    cases q : M.step s t with
    | halt o s' => rw [q] at hn; cases hn
    | go s' t' =>
      rw [q] at hn
      exact .next (.inl (calm_of_step q).1) (calm_of_step q).2 (ih hn)

/-- the library's facts, run on the machine -/
theorem go_wrap {α : Type} {Γ : Ctx} {st : List Frame} (hf : Γ.Fits st) (K : α → Sem PySem.Fin) (H : Value → Sem PySem.Fin) (gd : Bool → Bool) (lv : List Value → List Value) (m : Sem α) :
    ∀ (Q : α → Pos → Shared → Prop) (E : Value → Pos → Shared → Prop) (p : Pos) (s : Shared), wp M Γ m Q E p s →
      ∃ s' p' t', Comes M s ⟨m.wrap K H gd lv, Γ.code, p, st⟩ s' ⟨t', Γ.code, p', st⟩ ∧
        ((∃ a, t' = K a ∧ Q a p' s') ∨ ∃ e, t' = H e ∧ E e p' s') := by
  have one : ∀ {s s₁ : Shared} {t t₁ : Thread} {Q : α → Pos → Shared → Prop} {E : Value → Pos → Shared → Prop}, M.step s t = .go s₁ t₁ →
      (∃ s' p' t', Comes M s₁ t₁ s' ⟨t', Γ.code, p', st⟩ ∧ ((∃ a, t' = K a ∧ Q a p' s') ∨ ∃ e, t' = H e ∧ E e p' s')) →
      ∃ s' p' t', Comes M s t s' ⟨t', Γ.code, p', st⟩ ∧ ((∃ a, t' = K a ∧ Q a p' s') ∨ ∃ e, t' = H e ∧ E e p' s') :=
    fun q ⟨s', p', t', c, z⟩ => ⟨s', p', t', .step q c, z⟩
  induction m with
  | pure a => exact fun Q E p s h => ⟨s, p, _, .refl _ _, .inl ⟨a, rfl, h⟩⟩
  | raise e => exact fun Q E p s h => ⟨s, p, _, .refl _ _, .inr ⟨e, rfl, h⟩⟩
  | unsupported => exact fun Q E p s h => False.elim h
  | finish => exact fun Q E p s h => False.elim h
  | register => exact fun Q E p s h => False.elim h
  | yield => exact fun Q E p s h => False.elim h
  | fork => exact fun Q E p s h => False.elim h
  | await => exact fun Q E p s h => False.elim h
  | rule tag k ih => exact fun Q E p s h => one (step_rule ..) (ih () Q E p s h)
  | «at» q k ih => exact fun Q E p s h => one (step_at ..) (ih () Q E q s h)
  | load a part k ih => exact fun Q E p s ⟨o, ho, h⟩ => one (step_load _ _ _ _ _ _ _ ho) (ih o Q E p s h)
  | update a part f k ih => exact fun Q E p s ⟨ha, h⟩ => one (step_update _ _ _ _ _ _ _ _ ha) (ih () Q E p _ h)
  | loadIfAlive a k ih => exact fun Q E p s h => one (step_loadIfAlive ..) (ih _ Q E p s h)
  | point l k ih => exact fun Q E p s h => one (step_point ..) (ih () Q E p s h)
  | alloc o k ih => exact fun Q E p s h => one (step_alloc ..) (ih _ Q E p _ h)
  | fresh k ih => exact fun Q E p s h => one (step_fresh ..) (ih _ Q E p _ h)
  | ask k ih => exact fun Q E p s h => one (step_ask ..) (ih _ Q E p s h)
  | choose src n k ih => exact fun Q E p s ⟨hn, h⟩ => one (step_choose _ _ _ _ _ _ _ hn) (ih _ Q E p _ h)
  | os q l k ih => exact fun Q E p s h => one (step_os ..) (ih _ Q E p _ h)
  | thread k ih => exact fun Q E p s h => one (step_thread ..) (ih _ Q E p s h)
  | newGen c k ih => exact fun Q E p s h => one (step_newGen ..) (ih _ Q E p _ h)
  | genState g k ih => exact fun Q E p s ⟨x, hg, h⟩ => one (step_genState _ _ _ _ _ _ hg) (ih _ Q E p s h)
  | stack k ih => exact fun Q E p s h => one (by rw [hf.below]; exact step_stack ..) (ih _ Q E p s h)
  | handled own k ih =>
    intro Q E p s h
    have e : (if own = true then Γ.own else Γ.handled) = topHandled (if own = true then ownFrames st else st) := by
      cases own
      · exact hf.handled
      · exact hf.own
    refine one (step_handled ..) ?_
    rw [← e]
    exact ih _ Q E p s h
  | resume g r l k ih =>
    intro Q E p s h
    obtain ⟨res, s₁, hw, h⟩ := h
    obtain ⟨s', p', t', c, z⟩ := ih res Q E p s₁ h
    exact ⟨s', p', t', (wakes_comes hf (lv l) (fun x => (k x).wrap K H gd lv) hw).trans c, z⟩
  | call c h₀ g l k ih =>
    intro Q E p s h
    obtain ⟨r, s₁, hr, h⟩ := h
    have R := runs_reach hr _ (hf.enter c (fun x => (k x).wrap K H gd lv) h₀ (gd g) (lv l) p [])
    obtain ⟨t₁, c₁, p₁, pre, hc, hx⟩ := R.comes
    obtain ⟨rfl, rfl⟩ := hx
    obtain ⟨s', p', t', c', z⟩ := ih r Q E p s₁ h
    exact ⟨s', p', t', .step (step_call ..) (hc.trans (.step (step_leaf_ret ..) c')), z⟩

/-! ### configurations -/
/-- what is known of the frames below -/
def Under (A : Around) (base : List Frame) : Prop := ∀ c, (Ctx.of c base).Woken A
/-- what the frames below do with what comes back to them: P is the goal -/
abbrev Rest := List Frame → (Shared → Thread → Prop) → Prop
/-- from the tree t, in the code c, over the frames fs -/
def Conf (M : Model) (A : Around) (R : Rest) (c : Code) (t : Sem PySem.Fin) (fs : List Frame) (s : Shared) : Prop :=
  ∀ base P p, Under A base → R base P → Ev M P s ⟨t, c, p, fs ++ base⟩

section
variable {A : Around} {R : Rest} {c : Code} {fs : List Frame} {s : Shared}
theorem Under.over (h : ∀ c, (Ctx.of c base).Woken A) (c : Code) (fs : List Frame) : (Ctx.of c (fs ++ base)).In (A.over c fs) := by
  rw [Ctx.of_append]
  exact (h c).over fs
theorem cf_wrap {α : Type} {m : Sem α} {K : α → Sem PySem.Fin} {H : Value → Sem PySem.Fin} {gd : Bool → Bool} {lv : List Value → List Value}
    (h : wpAny M (A.over c fs) m (fun a s' => Conf M A R c (K a) fs s') (fun x s' => Conf M A R c (H x) fs s') s) :
    Conf M A R c (m.wrap K H gd lv) fs s := by
  intro base P p hu hr
  obtain ⟨s', p', t', hc, z⟩ := go_wrap (M := M) (Ctx.fits_of c (fs ++ base)) K H gd lv m _ _ p s (h _ p (Under.over hu c fs))
  refine Ev.of_go (go_of_comes hc) ?_
  rcases z with ⟨a, rfl, q⟩ | ⟨x, rfl, q⟩
  · exact q base P p' hu hr
  · exact q base P p' hu hr
theorem wrap_id {α : Type} (m : Sem α) : m.wrap .pure .raise id id = m := by
  induction m <;> simp only [Sem.wrap, id, *]
/-- the whole tree -/
theorem cf_tree {t : Sem PySem.Fin} (h : wpAny M (A.over c fs) t (fun fin s' => Conf M A R c (.pure fin) fs s') (fun x s' => Conf M A R c (.raise x) fs s') s) : Conf M A R c t fs s := by
  rw [← wrap_id t]
  exact cf_wrap h
theorem cf_wbind {α β : Type} {m : Sem α} {f : α → Sem β} {K : β → Sem PySem.Fin} {H : Value → Sem PySem.Fin} {gd : Bool → Bool} {lv : List Value → List Value}
    (h : wpAny M (A.over c fs) m (fun a s' => Conf M A R c ((f a).wrap K H gd lv) fs s') (fun x s' => Conf M A R c (H x) fs s') s) :
    Conf M A R c ((m >>= f).wrap K H gd lv) fs s := by
  rw [Sem.bind_eq_wrap', Sem.wrap_wrap]
  exact cf_wrap h
/-- the first of two, at this level -/
theorem cf_wbindC {α β : Type} {m : Sem α} {f : α → Sem β} {K : β → Sem PySem.Fin} {H : Value → Sem PySem.Fin} {gd : Bool → Bool} {lv : List Value → List Value}
    (h : Conf M A R c (m.wrap (fun a => (f a).wrap K H gd lv) H gd lv) fs s) : Conf M A R c ((m >>= f).wrap K H gd lv) fs s := by
  rw [Sem.bind_eq_wrap', Sem.wrap_wrap]
  exact h
theorem cf_bind {α : Type} {m : Sem α} {K : α → Sem PySem.Fin}
    (h : wpAny M (A.over c fs) m (fun a s' => Conf M A R c (K a) fs s') (fun x s' => Conf M A R c (.raise x) fs s') s) : Conf M A R c (m >>= K) fs s := by
  rw [Sem.bind_eq_wrap']
  exact cf_wrap h
theorem cf_call {c' : Code} {h : Option Value} {g : Bool} {l : List Value} {k : PySem.Result → Sem PySem.Fin}
    (q : ∀ p, Conf M A R c' (M.den c') (.ret k h g l c p [] :: fs) s) : Conf M A R c (.call c' h g l k) fs s :=
  fun base P p hu hr => .step (step_call ..) (q p base P p hu hr)
theorem cf_leaf {k : PySem.Result → Sem PySem.Fin} {h : Option Value} {g : Bool} {l kp : List Value} {c₁ : Code} {p₁ : Pos} (r : PySem.Result)
    (q : Conf M A R c₁ (k r) fs s) : Conf M A R c (leafOf r) (.ret k h g l c₁ p₁ kp :: fs) s :=
  fun base P p hu hr => .step (step_leaf_ret ..) (q base P p₁ hu hr)
theorem cf_again {c' : Code} (hq : c'.quiet = true) (q : Conf M A R c' (M.den c') fs s) : Conf M A R c (.pure (.again c')) fs s :=
  fun base P p hu hr => .step (step_again _ _ _ _ _ _ hq) (q base P p hu hr)
theorem cf_at {p' : Pos} {k : Unit → Sem PySem.Fin} (q : Conf M A R c (k ()) fs s) : Conf M A R c (.at p' k) fs s :=
  fun base P p hu hr => .step (step_at ..) (q base P p' hu hr)
theorem cf_point {l : List Value} {k : Unit → Sem PySem.Fin} (q : Conf M A R c (k ()) fs s) : Conf M A R c (.point l k) fs s :=
  fun base P p hu hr => .step (step_point ..) (q base P p hu hr)
theorem cf_rule {tag : String} {k : Unit → Sem PySem.Fin} (q : Conf M A R c (k ()) fs s) : Conf M A R c (.rule tag k) fs s :=
  fun base P p hu hr => .step (step_rule ..) (q base P p hu hr)
/-- it ends: the frames below take it -/
theorem cf_end {t : Sem PySem.Fin} (q : ∀ base P p, Under A base → R base P → Ev M P s ⟨t, c, p, base⟩) : Conf M A R c t [] s :=
  fun base P p hu hr => q base P p hu hr
theorem Conf.imp {R' : Rest} {t : Sem PySem.Fin} (h : Conf M A R c t fs s) (q : ∀ base P, R' base P → R base P) : Conf M A R' c t fs s :=
  fun base P p hu hr => h base P p hu (q base P hr)

/-! ### a generator's run: up to its next yield or its end -/
def GRest (M : Model) (g : Nat) (B : PySem.Result → Shared → Prop) (Y : Value → Shared → GenState → Prop) : Rest := fun base P =>
  ∃ k l c p rest, base = .gen g k l c p :: rest ∧ (∀ r s', B r s' → Ev M P (s'.setGen g .finished) ⟨k (End.ret r).result, c, p, rest⟩) ∧
    ∀ v s' x, Y v s' x → Ev M P (s'.setGen g x) ⟨k (.yielded v), c, p, rest⟩
/-- woken with r, in the state s -/
def Wake (M : Model) (A : Around) (g : Nat) (x : GenState) (r : Resume) (s : Shared) (B : PySem.Result → Shared → Prop) (Y : Value → Shared → GenState → Prop) : Prop :=
  match x with
  | .fresh c => r = .send .none ∧ Conf M A (GRest M g B Y) c (M.den c) [] s
  | .suspended k _ c _ fs _ => Conf M A (GRest M g B Y) c (k r) fs s
  | _ => False
theorem under_gen {base : List Frame} (hu : Under A base) {g : Nat} {k : GenResult → Sem PySem.Fin} {l : List Value} {p : Pos} :
    Under (A.over c fs) (.gen g k l c p :: (fs ++ base)) := fun c₁ => by
  have e : Ctx.of c₁ (.gen g k l c p :: (fs ++ base)) = (Ctx.of c (fs ++ base)).wake c₁ p := by
    rw [show Frame.gen g k l c p :: (fs ++ base) = [Frame.gen g k l c p] ++ (fs ++ base) from rfl, Ctx.of_append]
    rfl
  rw [e]
  exact (Under.over hu c fs).wake c₁ p
theorem cf_resume {g : Nat} {x : GenState} {r : Resume} {l : List Value} {k : GenResult → Sem PySem.Fin} {B : PySem.Result → Shared → Prop} {Y : Value → Shared → GenState → Prop}
    {A' : Around} (hl : ∀ base, Under (A.over c fs) base → Under A' base) (hx : s.gens[g]? = some x) (hw : Wake M A' g x r (s.setGen g .running) B Y)
    (hB : ∀ q s', B q s' → Conf M A R c (k (End.ret q).result) fs (s'.setGen g .finished)) (hY : ∀ v s' y, Y v s' y → Conf M A R c (k (.yielded v)) fs (s'.setGen g y)) :
    Conf M A R c (.resume g r l k) fs s := by
  intro base P p hu hr
  have rest : GRest M g B Y (.gen g k l c p :: (fs ++ base)) P :=
    ⟨k, l, c, p, fs ++ base, rfl, fun q s' z => hB q s' z base P p hu hr, fun v s' y z => hY v s' y z base P p hu hr⟩
  cases x with
  | running => exact hw.elim
  | finished => exact hw.elim
  | fresh c' =>
    obtain ⟨rfl, hw⟩ := hw
    exact .step (step_resume_fresh _ _ _ _ _ _ _ hx) (hw _ P p (hl _ (under_gen hu)) rest)
  | suspended kk l' c' p' fs' cl => exact .step (step_resume_suspended _ _ _ _ _ _ _ _ hx) (hw _ P p' (hl _ (under_gen hu)) rest)
/-- it hands out v -/
theorem cf_yield {g : Nat} {B : PySem.Result → Shared → Prop} {Y : Value → Shared → GenState → Prop} {v : Value} {l : List Value} {k : Resume → Sem PySem.Fin}
    (hfs : splitAtGen fs = none) (hfg : fs.any Frame.guarded = false) (h : ∀ p, Y v s (.suspended k l c p fs false)) :
    Conf M A (GRest M g B Y) c (.yield v false l k) fs s := by
  rintro base P p hu ⟨k', l', c', p', rest, rfl, _, q⟩
  have hsp : splitAtGen (fs ++ .gen g k' l' c' p' :: rest) = some (fs, (g, k', c', p'), rest) := by
    rw [splitAtGen_append_none _ hfs, splitAtGen_gen]
    simp
  refine .step (step_yield _ _ _ _ _ _ _ _ _ hsp (by simp [End.quiet, hfg])) ?_
  have e : (End.susp v false l k c p fs).genState = .suspended k l c p fs false := by simp [End.genState, hfg]
  rw [e]
  exact q v s _ (h p)
/-- a delegator over a generator hands out v -/
theorem cf_yieldG {g : Nat} {B : PySem.Result → Shared → Prop} {Y : Value → Shared → GenState → Prop} {v : Value} {l : List Value} {k : Resume → Sem PySem.Fin} {a : Addr} {more : List Value}
    {kw : List (Str × Value)} {o : Obj} {n : Nat} (ho : s.heap.get? a = some o) (hn : o.genNumber? = some n)
    (hfs : splitAtGen fs = none) (hfg : fs.any Frame.guarded = false) (h : ∀ p, Y v s (.suspended k l (.builtin "proto.yield_from" ⟨.ref a :: more, kw⟩) p fs true)) :
    Conf M A (GRest M g B Y) (.builtin "proto.yield_from" ⟨.ref a :: more, kw⟩) (.yield v true l k) fs s := by
  rintro base P p hu ⟨k', l', c', p', rest, rfl, _, q⟩
  have hsp : splitAtGen (fs ++ .gen g k' l' c' p' :: rest) = some (fs, (g, k', c', p'), rest) := by
    rw [splitAtGen_append_none _ hfs, splitAtGen_gen]
    simp
  have q' := q v s _ (h p)
  refine Ev.of_go (.next (.inr ⟨v, l, k, a, more, kw, p, _, fs, _, rest, o, n, rfl, hsp, hfg, ho, hn⟩) ?_ (.here _ _)) q'
  simp only [stepK, PySem.step, hsp, Bool.true_or]
  rfl
/-- it returns, or raises -/
theorem cf_gen_end {g : Nat} {B : PySem.Result → Shared → Prop} {Y : Value → Shared → GenState → Prop} (r : PySem.Result) (h : B r s) :
    Conf M A (GRest M g B Y) c (leafOf r) [] s := by
  rintro base P p hu ⟨k', l', c', p', rest, rfl, q, _⟩
  exact .step (step_leaf_gen ..) (q r s h)
end
end Cf
end

section
set_option linter.all false
set_option maxRecDepth 100000
/-! From the logic to the whole machine with its lifetimes. -/
namespace Cf
open PySem Sem

section
variable {den : Code → Sem PySem.Fin} {prog : Program} {w : World}
theorem pick_of {s : Shared} {t : Thread} (hz : s.heap.life.registered = []) (hm : (Config.single s t).moves w.params.profile = [.run 0]) :
    (Config.single s t).pick w = .ok (.run 0, .single s t) := by
  have hw : s.watching = false := by simp [Shared.watching, hz]
  have h1 : (Config.single s t).collect? w.params = none := by simp [Config.collect?, Config.single, hw]
  have h2 : (Config.single s t).collectable = [] := by simp [Config.collectable, Config.single, hw]
  simp only [Config.pick, h1, h2, Config.pickThread, hm]
  cases w.params.lifetimes <;> rfl

theorem mild_sstep {s : Shared} {t : Thread} (hz : s.asleep) (h : Mild s t) : sstep den prog w (.single s t) = (step den prog w s t).lift := by
  obtain ⟨v, l, k, a, more, kw, p, st, fs, b, rest, o, n, rfl, hsp, hg, ho, hn⟩ := h
  obtain ⟨g, k', c', p'⟩ := b
  have hr := hz.1
  have hm : (Config.single s ⟨.yield v true l k, .builtin "proto.yield_from" ⟨.ref a :: more, kw⟩, p, st⟩).moves w.params.profile = [.run 0] := by
    simp [Config.moves, Config.single, movesFrom, Thread.moves]
  have hw : s.watching = false := by simp [Shared.watching, hr]
  have hsh : closingShows s fs (.builtin "proto.yield_from" ⟨.ref a :: more, kw⟩) true = false := by
    simp only [closingShows, hg, Bool.false_or, Bool.true_and, delegateShows, ho, hn, hr]
    rfl
  have hsp' : Thread.special ⟨.yield v true l k, .builtin "proto.yield_from" ⟨.ref a :: more, kw⟩, p, st⟩ = true := by
    simp [Thread.special, Thread.yieldsInsideHandler]
  have hl : ∀ others, lifeStep den prog w others s ⟨.yield v true l k, .builtin "proto.yield_from" ⟨.ref a :: more, kw⟩, p, st⟩ =
      step den prog w s ⟨.yield v true l k, .builtin "proto.yield_from" ⟨.ref a :: more, kw⟩, p, st⟩ := fun others => by
    unfold lifeStep
    rw [if_pos hsp']
    simp only [collectorTurn?, hsp, hsh, Bool.false_eq_true, if_false, Bool.false_and, Thread.atItsEnd, stepCounting, hz.2]
  simp only [sstep, pick_of hr hm, Config.move]
  simp only [Config.run, Config.single, entering_same]
  have hs : step den prog w s ⟨.yield v true l k, .builtin "proto.yield_from" ⟨.ref a :: more, kw⟩, p, st⟩ =
      .go { s with gens := s.gens.setIfInBounds g (.suspended k l (.builtin "proto.yield_from" ⟨.ref a :: more, kw⟩) p fs true) } ⟨k' (.yielded v), c', p', rest⟩ := by
    simp only [PySem.step, hsp, Bool.true_or]
  simp [hsp', others_single, Thread.finalizes, hl, hs, Step.lift, Config.single]

theorem fair_sstep {s : Shared} {t : Thread} {s₁ : Shared} {t₁ : Thread} (hz : s.asleep) (h : Fair s t) (e : step den prog w s t = .go s₁ t₁) :
    sstep den prog w (.single s t) = .go (.single s₁ t₁) := by
  rcases h with h | h
  · rcases sstep_single den prog w s t h hz with q | q
    · rw [q, e]; rfl
    · rw [e] at q; cases q
  · rw [mild_sstep hz h, e]; rfl
end

theorem fair_forget {s σ : Shared} {t τ : Thread} (hs : s.forget = σ.forget) (ht : t.forget = τ.forget) (h : Fair s t) : Fair σ τ := by
  rcases h with h | h
  · left
    rw [← Thread.calm_forget, ← ht, Thread.calm_forget]
    exact h
  · right
    obtain ⟨v, l, k, a, more, kw, p, st, fs, b, rest, o, n, rfl, hsp, hg, ho, hn⟩ := h
    obtain ⟨cur, code, pos, stack⟩ := τ
    simp only [Thread.forget, Thread.mk.injEq] at ht
    obtain ⟨rfl, rfl, rfl, hst⟩ := ht
    have e := splitAtGen_forgetAll stack
    rw [← hst, splitAtGen_forgetAll, hsp] at e
    cases q : splitAtGen stack with
    | none => rw [q] at e; cases e
    | some x =>
      obtain ⟨fs', b', rest'⟩ := x
      rw [q] at e
      simp only [Option.map_some, Option.some.injEq, Prod.mk.injEq] at e
      obtain ⟨e1, rfl, e3⟩ := e
      refine ⟨v, l, k, a, more, kw, _, stack, fs', _, rest', o, n, rfl, q, ?_, ?_, hn⟩
      · rw [← any_guarded_forgetAll, ← e1, any_guarded_forgetAll]; exact hg
      · rw [← (Shared.forget_eq hs).1]; exact ho

/-- the run, on the whole machine -/
theorem sched_of_go {M : Model} {s t s' t'} (h : Go M s t s' t') : ∀ (σ : Shared) (τ : Thread), s.forget = σ.forget → t.forget = τ.forget → σ.asleep →
    ∃ n σ' τ', schedN M.den M.prog M.w n (.single σ τ) = .running (.single σ' τ') ∧ s'.forget = σ'.forget ∧ t'.forget = τ'.forget ∧ σ'.heap.life = σ.heap.life := by
  induction h with
  | here s t => exact fun σ τ hs ht hz => ⟨0, σ, τ, rfl, hs, ht, rfl⟩
  | @next s t s₁ t₁ s₂ t₂ f e _ ih =>
    intro σ τ hs ht hz
    have q := (stepK_forget M.den M.prog M.w s t).trans (step_same M.den M.prog M.w hs ht)
    rw [e] at q
    cases z : step M.den M.prog M.w σ τ with
    | halt o σ₁ => rw [z] at q; cases q
    | go σ₁ τ₁ =>
      rw [z] at q
      simp only [Step.forget, Step.go.injEq] at q
      have hl := step_life M.den M.prog M.w σ σ₁ τ τ₁ z
      obtain ⟨n, σ', τ', r, a, b, c⟩ := ih σ₁ τ₁ q.1 q.2 (Shared.asleep_of_life hl hz)
      refine ⟨n + 1, σ', τ', ?_, a, b, c.trans hl⟩
      simp only [schedN, fair_sstep hz (fair_forget hs ht f) z]
      exact r

theorem sched_snoc {den : Code → Sem PySem.Fin} {prog : Program} {w : World} {n : Nat} : ∀ {c c' : Config} {o : Outcome} {s' : Shared}, schedN den prog w n c = .running c' →
    sstep den prog w c' = .halt o s' → schedN den prog w (n + 1) c = .halted o s' := by
  induction n with
  | zero =>
    intro c c' o s' h q
    cases h
    simp only [schedN, q]
  | succ n ih =>
    intro c c' o s' h q
    simp only [schedN] at h ⊢
    cases z : sstep den prog w c with
    | halt o₁ s₁ => rw [z] at h; cases h
    | go c₁ =>
      rw [z] at h
      have r := ih h q
      simp only [schedN] at r
      exact r

theorem leaf_calm (r : PySem.Result) (c : Code) (p : Pos) : Thread.calm ⟨leafOf r, c, p, []⟩ = true := by
  cases r <;> rfl

theorem sched_ends {M : Model} {s : Shared} {t : Thread} {R : PySem.Result → Shared → Prop} (hz : s.asleep)
    (h : Ev M (fun s' t' => ∃ r c p, t' = ⟨leafOf r, c, p, []⟩ ∧ R r s' ∧ leftWithCleanup s'.gens = false) s t) :
    ∃ n r s' s'', schedN M.den M.prog M.w n (.single s t) = .halted (outcomeOf r) s' ∧ s'.forget = s''.forget ∧ R r s'' ∧ s'.heap.life = s.heap.life := by
  obtain ⟨s₁, t₁, hg, r, c, p, rfl, hR, hcl⟩ := h
  obtain ⟨n, σ, τ, hn, hs, ht, hl⟩ := sched_of_go hg s t rfl rfl hz
  obtain ⟨cur, code, pos, stack⟩ := τ
  simp only [Thread.forget, Thread.mk.injEq] at ht
  obtain ⟨rfl, rfl, rfl, hst⟩ := ht
  have : stack = [] := by
    cases stack with
    | nil => rfl
    | cons F st => cases hst
  subst this
  have hcl' : leftWithCleanup σ.gens = false := by
    rw [← leftWithCleanup_forget, ← (Shared.forget_eq hs).2.2.2.2, leftWithCleanup_forget]
    exact hcl
  have hfin : step M.den M.prog M.w σ ⟨leafOf r, c, p, []⟩ = .halt (outcomeOf r) σ := by
    cases r <;> simp [leafOf, PySem.step, PySem.finish, hcl', outcomeOf]
  have hz' : σ.asleep := Shared.asleep_of_life hl hz
  have hss : sstep M.den M.prog M.w (.single σ ⟨leafOf r, c, p, []⟩) = .halt (outcomeOf r) σ := by
    rcases sstep_single M.den M.prog M.w σ ⟨leafOf r, c, p, []⟩ (leaf_calm r c p) hz' with q | q
    · rw [q, hfin]; rfl
    · rw [hfin] at q
      cases r <;> cases q
  exact ⟨n + 1, r, σ, s₁, sched_snoc hn hss, hs.symm, hR, hl⟩
end Cf
end

section
set_option linter.all false
set_option maxRecDepth 100000
/-! What a called code promises; a law's row from such a promise. -/
namespace Cf
open PySem Sem PySem.W PySem.Calls PyProof.Rows

/-- no frame handles an exception -/
def NoH : List Frame → Bool
  | [] => true
  | .ret _ none _ _ _ _ _ :: r => NoH r
  | .gen .. :: r => NoH r
  | _ => false
theorem noH_marks : ∀ {fs : List Frame}, NoH fs = true → ∀ x : Option Value, marksOver fs (x, x) = (x, x)
  | [], _, _ => rfl
  | .ret _ none _ _ _ _ _ :: r, h, x => by
    rw [marksOver_cons, noH_marks (fs := r) h x]
    rfl
  | .gen .. :: r, h, x => by
    rw [marksOver_cons, noH_marks (fs := r) h x]
    rfl
  | .ret _ (some _) _ _ _ _ _ :: r, h, _ => nomatch (show false = true from h)

/-- less around: what holds under A' holds under A -/
structure Le (A A' : Around) : Prop where
  handled : A.handled = A'.handled
  depth : A.depth ≤ A'.depth
  frames : A.frames = A'.frames
  guards : A.guards = A'.guards
  units : A.units ≤ A'.units
theorem Under.le {A A' : Around} {base : List Frame} (h : Under A base) (l : Le A A') : Under A' base := fun c => by
  obtain ⟨⟨h1, h2, h3, h4, h5⟩, h6⟩ := h c
  exact ⟨⟨h1.trans l.handled, Nat.le_trans h2 l.depth, fun q e => h3 q (l.frames.trans e), fun q e => h4 q (l.guards.trans e), Nat.le_trans h5 l.units⟩, h6⟩

section
variable {M : Model} {A : Around} {R : Rest} {c : Code} {fs : List Frame} {s : Shared}
theorem under_ret {base : List Frame} (hu : Under A base) (hn : NoH fs = true) {k : PySem.Result → Sem PySem.Fin} {g : Bool} {l kp : List Value} {p : Pos} :
    Under (A.over c fs) (.ret k none g l c p kp :: (fs ++ base)) := fun c₁ => by
  obtain ⟨h1, h2, h3, h4, h5⟩ := Under.over hu c fs
  have hb : topHandled base = topHandled.go true base := (hu c).2.symm
  have hm : (topHandled (fs ++ base), topHandled.go true (fs ++ base)) = (topHandled base, topHandled base) := by
    rw [marks_append, ← hb]
    exact noH_marks hn _
  have hp : topHandled.go true (fs ++ base) = topHandled (fs ++ base) := (congrArg Prod.snd hm).trans (congrArg Prod.fst hm).symm
  refine ⟨⟨h1, ?_, fun q e => ?_, fun q e => ?_, ?_⟩, hp⟩
  · show frameCount ((c, p) :: (fs ++ base).map Frame.where_) ≤ _
    rw [frameCount_cons]
    have : frameCount ((fs ++ base).map Frame.where_) + c.weight ≤ (A.over c fs).depth := h2
    omega
  · show envsOf ((c, p) :: (fs ++ base).map Frame.where_) = q
    rw [envsOf_cons]
    exact h3 q e
  · show guardsOf ((c, p) :: (fs ++ base).map Frame.where_) = q
    rw [guardsOf_cons]
    exact h4 q e
  · show unitsOf ((c, p) :: (fs ++ base).map Frame.where_) ≤ _
    rw [unitsOf_cons]
    exact h5

/-- what comes back -/
def RRest (M : Model) (B : PySem.Result → Shared → Prop) : Rest := fun base P => ∀ r s' c p, B r s' → Ev M P s' ⟨leafOf r, c, p, base⟩
/-- the code c, called, comes back with B -/
def Call (M : Model) (A : Around) (c : Code) (B : PySem.Result → Shared → Prop) (s : Shared) : Prop := Conf M A (RRest M B) c (M.den c) [] s
theorem cf_back {B : PySem.Result → Shared → Prop} (r : PySem.Result) (h : B r s) : Conf M A (RRest M B) c (leafOf r) [] s :=
  fun base P p hu hr => hr r s c p h
theorem cf_callC {c' : Code} {g : Bool} {l : List Value} {k : PySem.Result → Sem PySem.Fin} {B : PySem.Result → Shared → Prop} {A' : Around} (hn : NoH fs = true)
    (hc : Call M A' c' B s) (hl : Le (A.over c fs) A') (hk : ∀ r s', B r s' → Conf M A R c (k r) fs s') : Conf M A R c (.call c' none g l k) fs s := by
  intro base P p hu hr
  refine .step (step_call ..) (hc _ P p ((under_ret hu hn).le hl) fun r s' c₁ p₁ hB => ?_)
  exact .step (step_leaf_ret ..) (hk r s' hB base P p hu hr)
theorem call_imp {B B' : PySem.Result → Shared → Prop} (h : Call M A c B s) (q : ∀ r s', B r s' → B' r s') : Call M A c B' s :=
  fun base P p hu hr => h base P p hu fun r s' c p z => hr r s' c p (q r s' z)
theorem call_of_code {B : PySem.Result → Shared → Prop} (h : codeAny M A c B s) : Call M A c B s := by
  intro base P p hu hr
  obtain ⟨r, s', hrun, hB⟩ := h (Ctx.of c base) p rfl (hu c).1
  obtain ⟨t', c', p', pre, hc, hx⟩ := (runs_reach hrun base (Ctx.fits_of c base)).comes
  obtain ⟨rfl, rfl⟩ := hx
  exact Ev.of_go (go_of_comes hc) (hr r s' c' p' hB)
theorem cf_value {f : Value} {vs : List Value} {kw : List (Str × Value)} {K : Value → Sem PySem.Fin} {H : Value → Sem PySem.Fin} {gd : Bool → Bool} {lv : List Value → List Value}
    {B : PySem.Result → Shared → Prop} {A' : Around} (hn : NoH fs = true) (hc : Call M A' (.call f ⟨vs, kw⟩) B s) (hl : Le (A.over c fs) A')
    (hk : ∀ r s', B r s' → match r with | .ok (.ret v) => Conf M A R c (K v) fs s' | .ok _ => False | .error e => Conf M A R c (H e) fs s') :
    Conf M A R c ((PySem.call f vs kw).wrap K H gd lv) fs s := by
  show Conf M A R c (.call (.call f ⟨vs, kw⟩) none (gd false) (lv []) _) fs s
  refine cf_callC hn hc hl fun r s' hB => ?_
  have q := hk r s' hB
  cases r with
  | error e => exact q
  | ok fl =>
    cases fl with
    | ret v => exact q
    | next => exact q.elim
    | brk => exact q.elim
    | cont => exact q.elim
end

/-! ### the law's row -/
def lowest : Around := { depth := 0, frames := some [], guards := some [], units := 4 - (Code.builtin "claim.caller" {}).cUnits }
theorem lowest_under : Under lowest [] := fun c => ⟨⟨rfl, Nat.zero_le _, fun l hl => by cases hl; rfl, fun g hg => by cases hg; rfl, Nat.zero_le _⟩, rfl⟩
theorem lowest_le : Le (lowest.over (.builtin "claim.caller" {}) []) callerA := by
  exact ⟨rfl, by decide +kernel, rfl, rfl, by decide +kernel⟩

/-- from the promise of the called def -/
theorem stub_ends {prog : Program} {w : World} {s : Shared} {name : Str} {mg : Str → Option Value} {f : Value} {vs : List Value} {B : PySem.Result → Shared → Prop} (hz : s.asleep) (hg : s.heap.Ns mainGlobals mg) (hf : mg name = some f)
    (hc : Call (model prog w) callerA (.call f ⟨vs, []⟩) (fun r s' => ∃ v, r = .ok (.ret v) ∧ B r s' ∧ leftWithCleanup s'.gens = false) s) :
    ∃ n r s' s'', schedN (denote table) prog w n (.single s (callStub name vs)) = .halted (outcomeOf r) s' ∧ s'.forget = s''.forget ∧ B r s'' ∧ s'.heap.life = s.heap.life := by
  refine sched_ends (M := model prog w) (R := B) hz ?_
  have core : Conf (model prog w) lowest (RRest (model prog w) fun r s' => B r s' ∧ leftWithCleanup s'.gens = false) (.builtin "claim.caller" {}) (callStub name vs).cur [] s := by
    refine cf_bind (wpAny_nsGet hg ?_)
    rw [hf]
    show Conf _ _ _ _ (PySem.call f vs >>= fun v => PySem.ret v) [] s
    rw [Sem.bind_eq_wrap']
    refine cf_value rfl hc lowest_le fun r s' hB => ?_
    obtain ⟨v, rfl, h1, h2⟩ := hB
    exact cf_back (.ok (.ret v)) ⟨h1, h2⟩
  exact core [] _ default lowest_under fun r s' c p hB => Ev.now ⟨r, c, p, rfl, hB.1, hB.2⟩

/-- a row's call, by Conf -/
abbrev WalkX (q : Program) (loose : List Str) (XP : (Str → Option Value) → Heap → Prop) (YP : World → Heap → Prop) (r : RowW) (d : DefRec) (kwd : List (Str × Expr)) : Prop :=
  ∀ (w : World) (s₀ s₁ : Shared) (mg mb : Str → Option Value), Ground q loose r.records XP w s₀ mg mb s₁.heap → YP w s₁.heap → ∀ (a : Addr) (o : Obj) (pm cd doc dV kV : Value),
    s₁.heap.get? a = some o → o.data = .func { docDef d.name d.params d.body d.scope pm cd doc with defaults := dV, kwdefaults := kV } → s₁.heap.CodeRec cd d.name →
    Dflts mg s₁.heap d.params kwd dV kV → mg d.name = some (.ref a) → s₁.gens = #[] → ∀ (args : List WData) (vals : List Value) (as : List Addr),
    r.claim.pre args = true → WData.layableAll args = true → ReadsAllW r.records (classAt s₀.heap) s₁.heap vals args as → WellAll w.params s₁.heap vals args →
    (∀ a ∈ as, (a == sysModules) = false) →
    Call (model r.prog w) callerA (.call (.ref a) ⟨vals, []⟩)
      (fun res s' => ∃ v, res = .ok (.ret v) ∧ GoodWG r.claim (classAt s₀.heap) (ExcName.means s₀.heap) args s₁ (.ok (.ret v)) s') s₁

end Cf
open PySem Sem PySem.W PySem.Calls PyProof.Rows Cf
namespace Cg
section
variable {r : OpenRow} {q : Program} {loose : List Str} {Xt : Shared → Bool} {XP : (Str → Option Value) → Heap → Prop} {α : Type} {Yf : Shared → α} {Ya : World → α} {YP : World → Heap → Prop}
  {d : DefRec} {kwd : List (Str × Expr)} {N : Nat}
/-- the head's end, over Conf: it bears the library's own name within this namespace, so that the library's head word ends here -/
theorem PySem.W.holds_open
    (left : LeftO r.prog q loose Xt Yf Ya N) (hY : ∀ w s, Yf s = Ya w → YP w s.heap) (hYk : ∀ w h h', YP w h → (∀ b o, h.get? b = some o → h'.get? b = some o) → YP w h')
    (hX : ∀ s, Xt s = true → XP (s.heap.nsMap mainGlobals) s.heap) (hXk : ∀ mg h h', XP mg h → (∀ b o, h.get? b = some o → h'.get? b = some o) → XP mg h')
    (hdef : defOf q r.name = some (d, kwd)) (hp : r.prog.theDef r.name = some (d.params, d.body, d.scope)) (hk : kwWritten? d.params.kwonlyargs d.params.kw_defaults = some kwd)
    (hRf : ∀ s, Xt s = true → RecFacts r.records s.heap) (hwr : (!r.writes || r.records.isEmpty) = true)
    (k1 : r.wellSaid = true) (ok : (chainsOk q && opensWell r.prog && (frees r.toRowW && r.within.isEmpty)) = true) (hb : r.prog.bare) (hw : r.toRowW.promised)
    (call : WalkX q loose XP YP r.toRowW d kwd) : r.Holds := by
  simp only [Bool.and_eq_true] at ok
  obtain ⟨⟨hch, o1⟩, k5, k6⟩ := ok
  obtain ⟨hsame, hu, ha, hap, hm⟩ := frees_parts k5
  have hmk : r.toRowW.claim.makers = [] := by
    show r.makers.map _ = []
    rw [hm]
    rfl
  refine ⟨k1, hw, ⟨hb, o1, hmk⟩, hw.witness, fun w => ⟨(left.behind hX hch w).1, fun s' hs' => ?_⟩⟩
  obtain ⟨s₀, hf, hg0, s, hT, hz, hgens, hg, G00, y⟩ := (left.behind (XP := fun mg h => XP mg h ∧ RecFacts r.records h) (fun s hs => ⟨hX s hs, hRf s hs⟩) hch w).2 s' hs'
  have G0 : Ground q loose [] XP w s (s.heap.nsMap mainGlobals) (s.heap.nsMap builtinsNs) s.heap :=
    ⟨G00.T, G00.B, G00.D, G00.TE, G00.TD, G00.W, G00.X.1, G00.cls, G00.has, G00.apart, G00.once, G00.K⟩
  have RF : RecFacts r.records s.heap := G00.X.2
  have gens0 : s.gens = #[] := Array.eq_empty_of_size_eq_zero (beq_iff_eq.mp hgens)
  have G : Ground q loose r.records XP w s _ _ s.heap := RF.ground G0
  refine ⟨s₀, hf, hg0, s, hT, fun n hn => ?_, RF.1, RF.2.1, fun args hpre hlay ord hord => ?_⟩
  · obtain rfl : n = r.name := by split at hn <;> simp_all
    exact pinned_of_view hg G0 hdef hp hk
  · obtain ⟨⟨vs, s₁⟩, hlaid⟩ := Option.isSome_iff_exists.mp (layAllW_isSome (P := w.params) (ord := ord) G.has args r.args s (pre_splitW hpre).1)
    have keeps := layAllW_keeps _ _ _ hlaid
    have hal := layAllW_rest _ _ _ hlaid
    obtain ⟨as, hrd, hin, hold⟩ := reads_layAllW hord _ _ _ hlaid hlay s₁.heap (fun _ _ e => e)
    have L : Laid r.records w s s₁ args vs as := ⟨⟨ord, hord, hlaid⟩, hrd, hin, hold, keeps, hal.1.trans gens0, hal.2.2.1⟩
    have G₁ := G.keeps hXk keeps
    obtain ⟨a, o, pm, cd, doc, dV, kV, h1, h2, h3, h4, h5⟩ := G₁.fn hdef
    have hi := ident_freeW hu ha hap
    have hwi : r.toRowW.claim.within = [] := List.isEmpty_iff.mp k6
    have C := call w s s₁ _ _ G₁ (hYk _ _ _ (hY w s y) keeps) a o pm cd doc dV kV h2 h3 h4 h5 (defOf_name hdef ▸ h1) L.gens args vs as hpre hlay L.reads L.well (L.low G.low)
    obtain ⟨n, res, t, t', hs, hfo, ⟨v, rfl, g⟩, hl⟩ := stub_ends (name := r.name) (mg := s.heap.nsMap mainGlobals) (B := fun res s' => ∃ v, res = .ok (.ret v) ∧ GoodWG r.toRowW.claim (classAt s.heap) (ExcName.means s.heap) args s₁ (.ok (.ret v)) s')
      (Shared.asleep_of_life hal.2.2.2 hz) G₁.T.g h1 (call_imp C fun res s' ⟨v, e, g⟩ => ⟨v, e, ⟨v, e, g⟩, leftWithCleanup_false_of_bare g.2.2.2⟩)
    obtain ⟨eh, _, _, eo, _⟩ := Shared.forget_eq hfo
    have z := g.laid (c := r.toRowW.claim) hsame hwi hi L
    have E := z.1.congr eh
    refine ⟨vs, s₁, hlaid, n, _, t, hs, ?_, fun _ i x hx => by rw [gens0] at hx; simp at hx, fun q => ?_, by rw [hl, hal.2.2.2], Shared.rest_eq (eo.trans z.2.1)⟩
    · rcases E with ⟨v', e, d1, d2, d3, d4, d5⟩ | ⟨_, _, _, e, _⟩
      · exact .inl ⟨v', by rw [e]; rfl, d1, d2, d3, fun b o y _ => d4 b o y, d5⟩
      · cases e
    · rw [eh]
      exact ⟨namesKept_of hT hg r.keeps keeps g.2.1.old, noTable hwr q⟩
end
end Cg
end

section
set_option linter.all false
set_option maxRecDepth 100000
/-! Facts that hold where the sleeping generators cannot be woken hold where they can, and leave them as they are. -/
namespace Cf
open PySem Sem

def inert : GenState → Bool
  | .fresh _ => false
  | _ => true
def stop : GenState → GenState
  | .suspended _ l c p fs _ => .suspended (fun _ => .unsupported "") l c p fs false
  | x => x
theorem stop_seen (x : GenState) : (stop x).seen = x.seen := by cases x <;> rfl
theorem stop_bare (x : GenState) : (stop x).bare = true := by cases x <;> rfl
theorem stop_inert {x : GenState} (h : inert x = true) (c : Code) : stop x ≠ .fresh c := by
  cases x <;> intro e <;> cases e <;> cases h

def Free (G₀ : Array GenState) (g : Nat) : Prop := ∀ x, G₀[g]? = some x → inert x = false
/-- A: the table without the sleepers' code; B: the true one; what stood in G₀ stands -/
structure Tw (G₀ A B : Array GenState) : Prop where
  size : A.size = B.size
  old : ∀ (i : Nat) (x : GenState), G₀[i]? = some x → inert x = true → A[i]? = some (stop x) ∧ B[i]? = some x
  rest : ∀ i : Nat, Free G₀ i → A[i]? = B[i]?
  plain : ∀ (i : Nat) k l c p fs cl, Free G₀ i → B[i]? = some (.suspended k l c p fs cl) → splitAtGen fs = none

theorem free_or (G₀ : Array GenState) (g : Nat) : Free G₀ g ∨ ∃ x, G₀[g]? = some x ∧ inert x = true := by
  cases e : G₀[g]? with
  | none => exact .inl fun x q => by rw [e] at q; cases q
  | some x =>
    cases h : inert x with
    | true => exact .inr ⟨x, rfl, h⟩
    | false => exact .inl fun y q => by rw [e] at q; cases q; exact h

theorem Tw.set {G₀ A B : Array GenState} (h : Tw G₀ A B) {g : Nat} (hf : Free G₀ g) (x : GenState) (hx : ∀ k l c p fs cl, x = .suspended k l c p fs cl → splitAtGen fs = none) :
    Tw G₀ (A.setIfInBounds g x) (B.setIfInBounds g x) where
  size := by rw [Array.size_setIfInBounds, Array.size_setIfInBounds]; exact h.size
  old := fun i y e q => by
    have ne : g ≠ i := fun z => by
      subst z
      have := hf y e
      rw [q] at this
      cases this
    rw [Array.getElem?_setIfInBounds_ne ne, Array.getElem?_setIfInBounds_ne ne]
    exact h.old i y e q
  rest := fun i hi => by
    by_cases e : g = i
    · subst e
      by_cases hb : g < A.size
      · rw [Array.getElem?_setIfInBounds_self_of_lt hb, Array.getElem?_setIfInBounds_self_of_lt (h.size ▸ hb)]
      · rw [Array.getElem?_eq_none (by simpa using hb), Array.getElem?_eq_none (by simpa [← h.size] using hb)]
    · rw [Array.getElem?_setIfInBounds_ne e, Array.getElem?_setIfInBounds_ne e]
      exact h.rest i hi
  plain := fun i k l c p fs cl hi e => by
    by_cases z : g = i
    · subst z
      by_cases hb : g < B.size
      · rw [Array.getElem?_setIfInBounds_self_of_lt hb] at e
        exact hx _ _ _ _ _ _ (Option.some.inj e)
      · rw [Array.getElem?_eq_none (by simpa using hb)] at e
        cases e
    · rw [Array.getElem?_setIfInBounds_ne z] at e
      exact h.plain i k l c p fs cl hi e
theorem Tw.push {G₀ A B : Array GenState} (h : Tw G₀ A B) (c : Code) : Tw G₀ (A.push (.fresh c)) (B.push (.fresh c)) where
  size := by rw [Array.size_push, Array.size_push, h.size]
  old := fun i y e q => by
    obtain ⟨h1, h2⟩ := h.old i y e q
    have l1 := (Array.getElem?_eq_some_iff.mp h1).1
    have l2 := (Array.getElem?_eq_some_iff.mp h2).1
    exact ⟨by rw [Array.getElem?_push_lt l1]; exact (Array.getElem?_eq_getElem l1).symm.trans h1,
      by rw [Array.getElem?_push_lt l2]; exact (Array.getElem?_eq_getElem l2).symm.trans h2⟩
  rest := fun i hi => by
    rw [Array.getElem?_push, Array.getElem?_push, h.size, h.rest i hi]
  plain := fun i k l c' p fs cl hi e => by
    rw [Array.getElem?_push] at e
    split at e
    · cases e
    · exact h.plain i k l c' p fs cl hi e

theorem Tw.fresh {G₀ A B : Array GenState} (h : Tw G₀ A B) {g : Nat} {c : Code} (e : A[g]? = some (.fresh c)) : Free G₀ g ∧ B[g]? = some (.fresh c) := by
  rcases free_or G₀ g with hf | ⟨x, hx, hi⟩
  · exact ⟨hf, (h.rest g hf).symm.trans e⟩
  · have q := (h.old g x hx hi).1
    rw [e] at q
    exact absurd (Option.some.inj q).symm (stop_inert hi c)
theorem Tw.seen {G₀ A B : Array GenState} (h : Tw G₀ A B) {g : Nat} {x : GenState} (e : A[g]? = some x) : ∃ y, B[g]? = some y ∧ y.seen = x.seen := by
  rcases free_or G₀ g with hf | ⟨y, hy, hi⟩
  · exact ⟨x, (h.rest g hf).symm.trans e, rfl⟩
  · obtain ⟨h1, h2⟩ := h.old g y hy hi
    rw [e] at h1
    cases h1
    exact ⟨y, h2, (stop_seen y).symm⟩
theorem Tw.inertly {G₀ A B : Array GenState} (h : Tw G₀ A B) {g : Nat} {x : GenState} (e : A[g]? = some x) (hx : x = .running ∨ x = .finished) : B[g]? = some x := by
  rcases free_or G₀ g with hf | ⟨y, hy, hi⟩
  · exact (h.rest g hf).symm.trans e
  · obtain ⟨h1, h2⟩ := h.old g y hy hi
    rw [e] at h1
    have e2 := Option.some.inj h1
    cases y <;> rcases hx with rfl | rfl <;> cases e2 <;> exact h2

def Apt (G₀ : Array GenState) (fs : List Frame) : Prop := ∀ g k l c p, Frame.gen g k l c p ∈ fs → Free G₀ g
theorem no_gen : ∀ {fs : List Frame}, splitAtGen fs = none → ∀ g k l c p, Frame.gen g k l c p ∉ fs
  | [], _, _, _, _, _, _, h => by cases h
  | .gen .. :: _, h, _, _, _, _, _, _ => by cases h
  | .ret _ _ _ _ _ _ _ :: r, h, g, k, l, c, p, m => by
    rw [splitAtGen_ret] at h
    have h' : splitAtGen r = none := by
      cases q : splitAtGen r with
      | none => rfl
      | some x => rw [q] at h; cases h
    rcases List.mem_cons.mp m with e | m
    · cases e
    · exact no_gen h' g k l c p m
theorem gen_of_split : ∀ {fs pre rest : List Frame} {g k c p}, splitAtGen fs = some (pre, (g, k, c, p), rest) → ∃ l, Frame.gen g k l c p ∈ fs ∧ ∀ F ∈ rest, F ∈ fs
  | [], _, _, _, _, _, _, h => by cases h
  | .gen g' k' l' c' p' :: r, pre, rest, g, k, c, p, h => by
    rw [splitAtGen_gen] at h
    cases h
    exact ⟨l', List.mem_cons_self, fun F m => List.mem_cons_of_mem _ m⟩
  | .ret _ _ _ _ _ _ _ :: r, pre, rest, g, k, c, p, h => by
    rw [splitAtGen_ret] at h
    obtain ⟨⟨fs', b, r'⟩, e, z⟩ := Option.map_eq_some_iff.mp h
    cases z
    obtain ⟨l, m, q⟩ := gen_of_split e
    exact ⟨l, List.mem_cons_of_mem _ m, fun F m => List.mem_cons_of_mem _ (q F m)⟩

section
variable {M : Model}
theorem reach_susp {base : List Frame} {s t c p pre s' e} (h : Reach M base s t c p pre s' e) : ∀ v g l k c' p' fs, e = .susp v g l k c' p' fs → splitAtGen fs = none := by
  induction h with
  | exit hx =>
    rintro v g l k c' p' fs rfl
    exact hx.2.2.2.2
  | step _ _ ih => exact ih
theorem runs_susp {base : List Frame} {c : Code} {p t fs s v g l k c' p' fs' s'} (h : Runs M (Ctx.of c base) p t fs s (.susp v g l k c' p' fs') s') : splitAtGen fs' = none :=
  reach_susp (runs_reach h base (Ctx.fits_of c base)) _ _ _ _ _ _ _ rfl
theorem runs_unsupported {Γ : Ctx} {p t fs s e s'} (h : Runs M Γ p t fs s e s') : ∀ w, t = .unsupported w → False := by
  induction h with
  | segRet _ _ ih _ => exact ih
  | segGen _ _ ih _ => exact ih
  | segSuspOut _ _ ih => exact ih
  | segSuspGen _ _ _ _ ih _ => exact ih
  | _ => intro w e; cases e
theorem runs_suspF {Γ : Ctx} {p t fs s e s'} (h : Runs M Γ p t fs s e s') : ∀ v g l k c' p' fs', e = .susp v g l k c' p' fs' → splitAtGen fs' = none := by
  induction h with
  | callSusp _ ih =>
    rintro v g l k c' p' fs' e
    cases e
    rw [splitAtGen_append_none _ (ih _ _ _ _ _ _ _ rfl)]
    rfl
  | yield =>
    rintro v g l k c' p' fs' e
    cases e
    rfl
  | segSuspOut hs _ ih =>
    rintro v g l k c' p' fs' e
    cases e
    rw [splitAtGen_append_none _ (ih _ _ _ _ _ _ _ rfl), hs]
    rfl
  | done | raise => intro v g l k c' p' fs' e; cases e
  | call _ _ _ ih | segRet _ _ _ ih | segGen _ _ _ ih | segSuspGen _ _ _ _ _ ih | resumeFresh _ _ _ _ _ ih | resumeSuspended _ _ _ _ _ ih => exact ih
  | _ => assumption

abbrev wg (s : Shared) (G : Array GenState) : Shared := { s with gens := G }
theorem genState_plain {e : End} (h : ∀ v g l k c p fs, e = .susp v g l k c p fs → splitAtGen fs = none) : ∀ k l c p fs cl, e.genState = .suspended k l c p fs cl → splitAtGen fs = none := by
  cases e with
  | ret => intro k l c p fs cl q; cases q
  | susp v g l k c p fs =>
    intro k' l' c' p' fs' cl q
    cases q
    exact h _ _ _ _ _ _ _ rfl

theorem runs_twin {G₀ : Array GenState} {Γ : Ctx} {p t fs s e s'} (h : Runs M Γ p t fs s e s') : ∀ B, Tw G₀ s.gens B → Apt G₀ fs →
    ∃ B', Runs M Γ p t fs (wg s B) e (wg s' B') ∧ Tw G₀ s'.gens B' := by
  have nilA : Apt G₀ [] := fun _ _ _ _ _ m => by cases m
  induction h with
  | done => exact fun B hB _ => ⟨B, .done, hB⟩
  | raise => exact fun B hB _ => ⟨B, .raise, hB⟩
  | yield => exact fun B hB _ => ⟨B, .yield, hB⟩
  | again hq _ ih =>
    intro B hB ha
    obtain ⟨B', r, z⟩ := ih B hB ha
    exact ⟨B', .again hq r, z⟩
  | rule _ ih => exact fun B hB ha => let ⟨B', r, z⟩ := ih B hB ha; ⟨B', .rule r, z⟩
  | «at» _ ih => exact fun B hB ha => let ⟨B', r, z⟩ := ih B hB ha; ⟨B', .at r, z⟩
  | load ho _ ih => exact fun B hB ha => let ⟨B', r, z⟩ := ih B hB ha; ⟨B', .load ho r, z⟩
  | update hu _ ih => exact fun B hB ha => let ⟨B', r, z⟩ := ih B hB ha; ⟨B', .update hu r, z⟩
  | loadIfAlive _ ih => exact fun B hB ha => let ⟨B', r, z⟩ := ih B hB ha; ⟨B', .loadIfAlive r, z⟩
  | point _ ih => exact fun B hB ha => let ⟨B', r, z⟩ := ih B hB ha; ⟨B', .point r, z⟩
  | alloc _ ih => exact fun B hB ha => let ⟨B', r, z⟩ := ih B hB ha; ⟨B', .alloc r, z⟩
  | fresh _ ih => exact fun B hB ha => let ⟨B', r, z⟩ := ih B hB ha; ⟨B', .fresh r, z⟩
  | ask _ ih => exact fun B hB ha => let ⟨B', r, z⟩ := ih B hB ha; ⟨B', .ask r, z⟩
  | choose hn _ ih => exact fun B hB ha => let ⟨B', r, z⟩ := ih B hB ha; ⟨B', .choose hn r, z⟩
  | os _ ih => exact fun B hB ha => let ⟨B', r, z⟩ := ih B hB ha; ⟨B', .os r, z⟩
  | handled _ ih => exact fun B hB ha => let ⟨B', r, z⟩ := ih B hB ha; ⟨B', .handled r, z⟩
  | stack _ ih => exact fun B hB ha => let ⟨B', r, z⟩ := ih B hB ha; ⟨B', .stack r, z⟩
  | thread _ ih => exact fun B hB ha => let ⟨B', r, z⟩ := ih B hB ha; ⟨B', .thread r, z⟩
  | newGen _ ih =>
    intro B hB ha
    obtain ⟨B', r, z⟩ := ih (B.push (.fresh _)) (hB.push _) ha
    refine ⟨B', .newGen ?_, z⟩
    rw [show (wg _ B).gens.size = _ from hB.size.symm]
    exact r
  | genState hg _ ih =>
    intro B hB ha
    obtain ⟨B', r, z⟩ := ih B hB ha
    obtain ⟨y, h1, h2⟩ := hB.seen hg
    rw [← h2] at r
    exact ⟨B', .genState h1 r, z⟩
  | call _ _ ih₁ ih₂ =>
    intro B hB ha
    obtain ⟨B₁, r₁, z₁⟩ := ih₁ B hB nilA
    obtain ⟨B₂, r₂, z₂⟩ := ih₂ B₁ z₁ nilA
    exact ⟨B₂, .call r₁ r₂, z₂⟩
  | callSusp _ ih =>
    intro B hB ha
    obtain ⟨B₁, r₁, z₁⟩ := ih B hB nilA
    exact ⟨B₁, .callSusp r₁, z₁⟩
  | @resumeFresh Γ p g l k s c e₁ s₁ e s' hg h₁ hq _ ih₁ ih₂ =>
    intro B hB ha
    obtain ⟨hf, hg'⟩ := hB.fresh hg
    obtain ⟨B₁, r₁, z₁⟩ := ih₁ (B.setIfInBounds g .running) (hB.set hf _ fun _ _ _ _ _ _ q => by cases q) nilA
    obtain ⟨B₂, r₂, z₂⟩ := ih₂ (B₁.setIfInBounds g e₁.genState) (z₁.set hf _ (genState_plain (runs_suspF h₁))) nilA
    exact ⟨B₂, .resumeFresh hg' r₁ hq r₂, z₂⟩
  | @resumeSuspended Γ p g r l k s k₀ l₀ c₀ p₀ fs cl e₁ s₁ e s' hg h₁ hq _ ih₁ ih₂ =>
    intro B hB ha
    have hf : Free G₀ g := by
      rcases free_or G₀ g with hf | ⟨x, hx, hi⟩
      · exact hf
      · have := (hB.old g x hx hi).1
        rw [hg] at this
        have e2 := Option.some.inj this
        cases x <;> cases e2
        exact (runs_unsupported h₁ _ rfl).elim
    have hB' : B[g]? = some (.suspended k₀ l₀ c₀ p₀ fs cl) := (hB.rest g hf).symm.trans hg
    obtain ⟨B₁, r₁, z₁⟩ := ih₁ (B.setIfInBounds g .running) (hB.set hf _ fun _ _ _ _ _ _ q => by cases q) fun _ _ _ _ _ m => absurd m (no_gen (hB.plain g _ _ _ _ _ _ hf hB') _ _ _ _ _)
    obtain ⟨B₂, r₂, z₂⟩ := ih₂ (B₁.setIfInBounds g e₁.genState) (z₁.set hf _ (genState_plain (runs_suspF h₁))) nilA
    exact ⟨B₂, .resumeSuspended hB' r₁ hq r₂, z₂⟩
  | resumeJustStarted hg hv _ ih =>
    intro B hB ha
    obtain ⟨B', r, z⟩ := ih B hB ha
    exact ⟨B', .resumeJustStarted (hB.fresh hg).2 hv r, z⟩
  | resumeThrowFresh hg _ ih =>
    intro B hB ha
    obtain ⟨hf, hg'⟩ := hB.fresh hg
    obtain ⟨B', r, z⟩ := ih (B.setIfInBounds _ .finished) (hB.set hf _ fun _ _ _ _ _ _ q => by cases q) nilA
    exact ⟨B', .resumeThrowFresh hg' r, z⟩
  | resumeRunning hg _ ih =>
    intro B hB ha
    obtain ⟨B', q, z⟩ := ih B hB ha
    exact ⟨B', .resumeRunning (hB.inertly hg (.inl rfl)) q, z⟩
  | resumeFinished hg _ ih =>
    intro B hB ha
    obtain ⟨B', q, z⟩ := ih B hB ha
    exact ⟨B', .resumeFinished (hB.inertly hg (.inr rfl)) q, z⟩
  | segRet _ _ ih₁ ih₂ =>
    intro B hB ha
    obtain ⟨B₁, r₁, z₁⟩ := ih₁ B hB nilA
    obtain ⟨B₂, r₂, z₂⟩ := ih₂ B₁ z₁ fun g k l c p m => ha g k l c p (List.mem_cons_of_mem _ m)
    exact ⟨B₂, .segRet r₁ r₂, z₂⟩
  | @segGen Γ p t g k l c₁ p₁ fs s r s₁ e s' _ _ ih₁ ih₂ =>
    intro B hB ha
    obtain ⟨B₁, r₁, z₁⟩ := ih₁ B hB nilA
    obtain ⟨B₂, r₂, z₂⟩ := ih₂ (B₁.setIfInBounds g .finished) (z₁.set (ha g k l c₁ p₁ List.mem_cons_self) _ fun _ _ _ _ _ _ q => by cases q) fun g k l c p m => ha g k l c p (List.mem_cons_of_mem _ m)
    exact ⟨B₂, .segGen r₁ r₂, z₂⟩
  | segSuspOut hs _ ih =>
    intro B hB ha
    obtain ⟨B₁, r₁, z₁⟩ := ih B hB nilA
    exact ⟨B₁, .segSuspOut hs r₁, z₁⟩
  | @segSuspGen Γ p t F fs pre g k c₁ p₁ rest s v g₀ l₀ k₀ c₀ p₀ fs₀ s₁ e s' hs h₁ hq _ ih₁ ih₂ =>
    intro B hB ha
    obtain ⟨l, hm, hr⟩ := gen_of_split hs
    obtain ⟨B₁, r₁, z₁⟩ := ih₁ B hB nilA
    have pl : ∀ k l c p fs cl, (End.susp v g₀ l₀ k₀ c₀ p₀ (fs₀ ++ pre)).genState = .suspended k l c p fs cl → splitAtGen fs = none := genState_plain fun v g l k c p fs e => by
      cases e
      rw [splitAtGen_append_none _ (runs_suspF h₁ _ _ _ _ _ _ _ rfl), splitAtGen_pre hs]
      rfl
    obtain ⟨B₂, r₂, z₂⟩ := ih₂ (B₁.setIfInBounds g _) (z₁.set (ha g k l c₁ p₁ hm) _ pl) fun g k l c p m => ha g k l c p (hr _ m)
    exact ⟨B₂, .segSuspGen hs r₁ hq r₂, z₂⟩

theorem wakes_twin {G₀ : Array GenState} {Γ : Ctx} {p : Pos} {g : Nat} {r : Resume} {s s' : Shared} {res : GenResult} (h : Wakes M Γ p g r s res s') (B : Array GenState) (hB : Tw G₀ s.gens B) :
    ∃ B', Wakes M Γ p g r (wg s B) res (wg s' B') ∧ Tw G₀ s'.gens B' := by
  have nilA : Apt G₀ [] := fun _ _ _ _ _ m => by cases m
  unfold Wakes at h
  cases hg : s.gens[g]? with
  | none => rw [hg] at h; exact h.elim
  | some x =>
    rw [hg] at h
    cases x with
    | running =>
      obtain ⟨rfl, rfl⟩ := h
      refine ⟨B, ?_, hB⟩
      unfold Wakes
      rw [show (wg s' B).gens[g]? = some .running from hB.inertly hg (.inl rfl)]
      exact ⟨rfl, rfl⟩
    | finished =>
      obtain ⟨rfl, rfl⟩ := h
      refine ⟨B, ?_, hB⟩
      unfold Wakes
      rw [show (wg s' B).gens[g]? = some .finished from hB.inertly hg (.inr rfl)]
      exact ⟨rfl, rfl⟩
    | fresh c =>
      obtain ⟨hf, hg'⟩ := hB.fresh hg
      cases r with
      | throw x =>
        obtain ⟨rfl, rfl⟩ := h
        refine ⟨B.setIfInBounds g .finished, ?_, hB.set hf _ fun _ _ _ _ _ _ q => by cases q⟩
        unfold Wakes
        rw [show (wg s B).gens[g]? = some (.fresh c) from hg']
        exact ⟨rfl, rfl⟩
      | send v =>
        by_cases hv : v = .none
        · subst hv
          obtain ⟨e₁, s₁, h₁, hq, rfl, rfl⟩ := h
          obtain ⟨B₁, r₁, z₁⟩ := runs_twin h₁ (B.setIfInBounds g .running) (hB.set hf _ fun _ _ _ _ _ _ q => by cases q) nilA
          refine ⟨B₁.setIfInBounds g e₁.genState, ?_, z₁.set hf _ (genState_plain (runs_suspF h₁))⟩
          unfold Wakes
          rw [show (wg s B).gens[g]? = some (.fresh c) from hg']
          exact ⟨e₁, _, r₁, hq, rfl, rfl⟩
        · have h' : res = .justStarted ∧ s' = s := by cases v <;> first | exact absurd rfl hv | exact h
          obtain ⟨rfl, rfl⟩ := h'
          exact ⟨B, wakes_justStarted M Γ hg' hv, hB⟩
    | suspended k₀ l₀ c₀ p₀ fs cl =>
      obtain ⟨e₁, s₁, h₁, hq, rfl, rfl⟩ := h
      have hf : Free G₀ g := by
        rcases free_or G₀ g with hf | ⟨x, hx, hi⟩
        · exact hf
        · have q := (hB.old g x hx hi).1
          rw [hg] at q
          have e2 := Option.some.inj q
          cases x <;> cases e2
          exact (runs_unsupported h₁ _ rfl).elim
      have hB' : B[g]? = some (.suspended k₀ l₀ c₀ p₀ fs cl) := (hB.rest g hf).symm.trans hg
      obtain ⟨B₁, r₁, z₁⟩ := runs_twin h₁ (B.setIfInBounds g .running) (hB.set hf _ fun _ _ _ _ _ _ q => by cases q)
        fun _ _ _ _ _ m => absurd m (no_gen (hB.plain g _ _ _ _ _ _ hf hB') _ _ _ _ _)
      refine ⟨B₁.setIfInBounds g e₁.genState, ?_, z₁.set hf _ (genState_plain (runs_suspF h₁))⟩
      unfold Wakes
      rw [show (wg s B).gens[g]? = _ from hB']
      exact ⟨e₁, _, r₁, hq, rfl, rfl⟩

/-- Q, over the true table -/
def Twin {α : Type} (G₀ : Array GenState) (Q : α → Shared → Prop) : α → Shared → Prop := fun a s' => ∃ s₁ B, Q a s₁ ∧ Tw G₀ s₁.gens B ∧ s' = wg s₁ B
theorem wp_twin {α : Type} {G₀ : Array GenState} {Γ : Ctx} {Q : α → Shared → Prop} {E : Value → Shared → Prop} (m : Sem α) : ∀ (p : Pos) (s : Shared), wp M Γ m (fun a _ s' => Q a s') (fun e _ s' => E e s') p s →
    ∀ B, Tw G₀ s.gens B → wp M Γ m (fun a _ s' => Twin G₀ Q a s') (fun e _ s' => Twin G₀ E e s') p (wg s B) := by
  have nilA : Apt G₀ [] := fun _ _ _ _ _ m => by cases m
  induction m with
  | pure a => exact fun p s h B hB => ⟨s, B, h, hB, rfl⟩
  | raise e => exact fun p s h B hB => ⟨s, B, h, hB, rfl⟩
  | unsupported => exact fun p s h => False.elim h
  | finish => exact fun p s h => False.elim h
  | register => exact fun p s h => False.elim h
  | yield => exact fun p s h => False.elim h
  | fork => exact fun p s h => False.elim h
  | await => exact fun p s h => False.elim h
  | rule tag k ih => exact fun p s h B hB => ih () p s h B hB
  | «at» q k ih => exact fun p s h B hB => ih () q s h B hB
  | load a part k ih => exact fun p s ⟨o, ho, h⟩ B hB => ⟨o, ho, ih o p s h B hB⟩
  | update a part f k ih => exact fun p s ⟨hu, h⟩ B hB => ⟨hu, ih () p _ h B hB⟩
  | loadIfAlive a k ih => exact fun p s h B hB => ih _ p s h B hB
  | point l k ih => exact fun p s h B hB => ih () p s h B hB
  | alloc o k ih => exact fun p s h B hB => ih _ p _ h B hB
  | fresh k ih => exact fun p s h B hB => ih _ p _ h B hB
  | ask k ih => exact fun p s h B hB => ih _ p s h B hB
  | choose src n k ih => exact fun p s ⟨hn, h⟩ B hB => ⟨hn, ih _ p _ h B hB⟩
  | os q l k ih => exact fun p s h B hB => ih _ p _ h B hB
  | handled own k ih => exact fun p s h B hB => ih _ p s h B hB
  | stack k ih => exact fun p s h B hB => ih _ p s h B hB
  | thread k ih => exact fun p s h B hB => ih _ p s h B hB
  | newGen c k ih =>
    intro p s h B hB
    have q := ih _ p _ h (B.push (.fresh c)) (hB.push c)
    show wp M Γ (k B.size) _ _ p _
    rw [← hB.size]
    exact q
  | genState g k ih =>
    intro p s h B hB
    obtain ⟨x, hg, h⟩ := h
    obtain ⟨y, h1, h2⟩ := hB.seen hg
    refine ⟨y, h1, ?_⟩
    rw [h2]
    exact ih _ p s h B hB
  | call c h₀ g l k ih =>
    intro p s h B hB
    obtain ⟨r, s₁, hr, h⟩ := h
    obtain ⟨B₁, r₁, z₁⟩ := runs_twin hr B hB nilA
    exact ⟨r, _, r₁, ih r p s₁ h B₁ z₁⟩
  | resume g r l k ih =>
    intro p s h B hB
    obtain ⟨res, s₁, hw, h⟩ := h
    obtain ⟨B₁, r₁, z₁⟩ := wakes_twin hw B hB
    exact ⟨res, _, r₁, ih res p s₁ h B₁ z₁⟩

/-- the table without the sleepers' code -/
def hush (G : Array GenState) : Array GenState := G.map stop
theorem hush_get (G : Array GenState) (i : Nat) : (hush G)[i]? = G[i]?.map stop := by
  unfold hush
  rw [Array.getElem?_map]
theorem tw_hush (G : Array GenState) : Tw G (hush G) G where
  size := by unfold hush; rw [Array.size_map]
  old := fun i x e _ => ⟨by rw [hush_get, e]; rfl, e⟩
  rest := fun i hi => by
    rw [hush_get]
    cases e : G[i]? with
    | none => rfl
    | some x =>
      have := hi x e
      cases x <;> first | rfl | cases this
  plain := fun i k l c p fs cl hi e => by
    have := hi _ e
    cases this
theorem hush_bare (G : Array GenState) : PyProof.Rows.AllBare (hush G) := fun x hx => by
  obtain ⟨y, _, rfl⟩ := Array.mem_map.mp hx
  exact stop_bare y
end
end Cf
end

section
set_option linter.all false
set_option maxRecDepth 100000
set_option maxHeartbeats 1000000
/-! A generator's next item, in the logic at the machine's level. -/
namespace Cf
open PySem PyProof.Rows
open Sem (wp)

theorem over_nil (A : Around) (c : Code) : A.over c [] = A.under c := by
  first
    | rfl
    | (obtain ⟨hd, d, fr, gs, u⟩ := A; simp [Around.over, Around.under, marksOver, frameCount, unitsOf, envsOf, guardsOf, pushEnvs, pushGuards])
theorem over_call (A : Around) (f : Value) (a : Args) : A.over (.call f a) [] = A.in1 := by
  rw [over_nil]
  exact Around.under_plain rfl rfl
theorem over_plain {A : Around} {id : String} (h : plainId id = true) (a : Args) : A.over (.builtin id a) [] = A.in1 := by
  rw [over_nil]
  exact Around.under_plainId h a
/-- a code over a frame that it came from -/
theorem over_cons (A : Around) (c c' : Code) (fs : List Frame) (k : PySem.Result → Sem PySem.Fin) (g : Bool) (l kp : List Value) (p : Pos) :
    A.over c' (.ret k none g l c p kp :: fs) = (A.over c fs).under c' := by
  have e2 : A.depth + frameCount ((Frame.ret k none g l c p kp :: fs).map Frame.where_) + c'.weight = (A.over c fs).depth + c'.weight := by
    show A.depth + frameCount ((c, p) :: fs.map Frame.where_) + c'.weight = A.depth + frameCount (fs.map Frame.where_) + c.weight + c'.weight
    rw [frameCount_cons]
    omega
  have e3 : pushEnvs c'.envs (pushEnvs (envsOf ((Frame.ret k none g l c p kp :: fs).map Frame.where_)) A.frames) = pushEnvs c'.envs (A.over c fs).frames := by
    show pushEnvs c'.envs (pushEnvs (envsOf ((c, p) :: fs.map Frame.where_)) A.frames) = pushEnvs c'.envs (pushEnvs c.envs (pushEnvs (envsOf (fs.map Frame.where_)) A.frames))
    rw [envsOf_cons]
    simp only [pushEnvs_eq]
    cases A.frames <;> simp [List.append_assoc]
  have e4 : pushGuards c'.guards (pushGuards (guardsOf ((Frame.ret k none g l c p kp :: fs).map Frame.where_)) A.guards) = pushGuards c'.guards (A.over c fs).guards := by
    show pushGuards c'.guards (pushGuards (guardsOf ((c, p) :: fs.map Frame.where_)) A.guards) = pushGuards c'.guards (pushGuards c.guards (pushGuards (guardsOf (fs.map Frame.where_)) A.guards))
    rw [guardsOf_cons]
    simp only [pushGuards_eq]
    cases A.guards <;> simp [List.append_assoc]
  have e5 : A.units + unitsOf ((Frame.ret k none g l c p kp :: fs).map Frame.where_) + c'.cUnits = (A.over c fs).units + c'.cUnits := by
    show A.units + unitsOf ((c, p) :: fs.map Frame.where_) + c'.cUnits = A.units + unitsOf (fs.map Frame.where_) + c.cUnits + c'.cUnits
    rw [unitsOf_cons]
    omega
  have e1 : (marksOver (Frame.ret k none g l c p kp :: fs) (A.handled, A.handled)).1 = (A.over c fs).handled := rfl
  show (⟨(marksOver (Frame.ret k none g l c p kp :: fs) (A.handled, A.handled)).1, A.depth + frameCount ((Frame.ret k none g l c p kp :: fs).map Frame.where_) + c'.weight,
    pushEnvs c'.envs (pushEnvs (envsOf ((Frame.ret k none g l c p kp :: fs).map Frame.where_)) A.frames), pushGuards c'.guards (pushGuards (guardsOf ((Frame.ret k none g l c p kp :: fs).map Frame.where_)) A.guards),
    A.units + unitsOf ((Frame.ret k none g l c p kp :: fs).map Frame.where_) + c'.cUnits⟩ : Around) = _
  rw [e1, e2, e3, e4, e5]
  rfl
theorem Le.refl (A : Around) : Le A A := ⟨rfl, Nat.le_refl _, rfl, rfl, Nat.le_refl _⟩
theorem Le.trans {A B C : Around} (a : Le A B) (b : Le B C) : Le A C := ⟨a.handled.trans b.handled, Nat.le_trans a.depth b.depth, a.frames.trans b.frames, a.guards.trans b.guards, Nat.le_trans a.units b.units⟩

/-- the generator's object; nobody sleeps over it -/
def GenAt (h : Heap) (a g : Nat) : Prop :=
  ∃ o nm qn, h.get? a = some o ∧ o.cls = .type "generator" ∧ o.data = .fields #[.int g 0, nm, qn] ∧ (∀ n t, (o.slots[0]? : Option (Option Value)) = some (some (.int n t)) → n ≤ 0)
theorem GenAt.typeIs {s : Shared} {a g : Nat} (h : GenAt s.heap a g) : s.TypeIs (.ref a) "generator" := let ⟨o, _, _, ho, hc, _⟩ := h; ⟨o, ho, hc⟩
theorem GenAt.keeps {h h' : Heap} {a g : Nat} (x : GenAt h a g) (k : ∀ o, h.get? a = some o → h'.get? a = some o) : GenAt h' a g :=
  let ⟨o, nm, qn, ho, r⟩ := x; ⟨o, nm, qn, k o ho, r⟩
section
variable {M : Model} {A : Around} {E : Value → Shared → Prop} {s : Shared}
theorem wp_genNumber {a g : Nat} {Q : Nat → Shared → Prop} (hg : GenAt s.heap a g) (h : Q g s) : wpAny M A (Builtin.Generator.genNumber (.ref a)) Q E s := by
  obtain ⟨o, nm, qn, ho, _, hd, hsl⟩ := hg
  unfold Builtin.Generator.genNumber
  refine wpAny_bind (wpAny_load ho ?_)
  have fin : wpAny M A (match o.data with
      | .fields vs => (match (vs[0]? : Option Value) with
        | some (Value.int i _) => (pure i.toNat : Sem Nat)
        | _ => unsupported "internal:generator-number")
      | _ => unsupported "internal:no-fields") Q E s := by
    rw [hd]
    show wpAny M A (pure ((g : Int).toNat)) Q E s
    rw [Int.toNat_natCast]
    exact wpAny_pure h
  cases q : (o.slots[0]? : Option (Option Value)) with
  | none => exact fin
  | some v =>
    cases v with
    | none => exact fin
    | some u =>
      cases u with
      | int n t =>
        have := hsl n t q
        show wpAny M A (if n > 0 then _ else _) Q E s
        rw [if_neg (by omega)]
        exact fin
      | _ => exact fin
theorem wp_stop {α : Type} (hh : A.handled = none) {Q : α → Shared → Prop} (h : ∀ e h', L2.StopX e h' → (∀ b o, s.heap.get? b = some o → h'.get? b = some o) → E e { s with heap := h' }) (f : Value → Sem α)
    (hf : ∀ e, f e = raiseNew e) : wpAny M A (newExc (.type "StopIteration") [] >>= f) Q E s := by
  rw [show f = fun e => raiseNew e from funext hf]
  refine wpAny_bind ?_
  simp only [newExc, newTuple]
  refine wpAny_bind (wpAny_newObj_type ?_ (by size_fits))
  refine wpAny_bind (m := firstArgMember _ _) (wpAny_of_eq (a := Value.none) (by first | rfl | (simp only [firstArgMember]; rfl)) ?_)
  refine wpAny_newObj_type ?_ (by size_fits)
  simp only [raiseNew]
  refine wpAny_bind (wpAny_handled ?_)
  rw [hh]
  refine wpAny_bind (wpAny_pure (wpAny_throw ?_))
  refine h _ _ ⟨_, _, _, rfl, Heap.get?_push_size _ rfl, rfl, rfl, ?_⟩ fun b o e => Heap.get?_push_of_some _ (Heap.get?_push_of_some _ e)
  first
    | rfl
    | kernel_rfl
end

section
variable {prog : Program} {w : World} {A : Around} {s : Shared}
/-- all kept, no smaller -/
def Up (h h' : Heap) : Prop := (∀ b o, h.get? b = some o → h'.get? b = some o) ∧ h.objs.size ≤ h'.objs.size
/-- what comes of asking a generator for its next item -/
def NextB (g : Nat) (B : PySem.Result → Shared → Prop) (Y : Value → Shared → GenState → Prop) : PySem.Result → Shared → Prop := fun r s' =>
  (∃ v s₁ y, r = .ok (.ret v) ∧ Y v s₁ y ∧ s' = s₁.setGen g y) ∨
  ∃ e s₁ h', r = .error e ∧ B (.ok (.ret .none)) s₁ ∧ L2.StopX e h' ∧ Up s₁.heap h' ∧ s' = { s₁.setGen g .finished with heap := h' }
theorem call_next {a g : Nat} {x : GenState} {B : PySem.Result → Shared → Prop} {Y : Value → Shared → GenState → Prop} {A' : Around} (hg : GenAt s.heap a g) (hx : s.gens[g]? = some x)
    (hw : Wake (model prog w) A' g x (.send .none) (s.setGen g .running) B Y) (hl : Le A.in1 A') (hh : A.handled = none) (hlim : s.heap.NoLimit) (hroom : A.depth < recursionLimit)
    (hB : ∀ r s', B r s' → r = .ok (.ret .none)) : Cf.Call (model prog w) A (.call (.builtin "generator.__next__") ⟨[.ref a], []⟩) (NextB g B Y) s := by
  unfold Cf.Call
  show Conf _ A _ _ (do checkBuiltinCall "generator.__next__" ⟨[.ref a], []⟩; again (.builtin "generator.__next__" ⟨[.ref a], []⟩)) [] s
  refine cf_bind ?_
  rw [over_call]
  refine slot_gen_next.check _ _ _ _ _ _ _ _ hg.typeIs (args_gen_next _) ?_
  refine cf_again (plainId_quiet slot_gen_next.plain _) ?_
  have hden : (model prog w).den (.builtin "generator.__next__" ⟨[.ref a], []⟩) = Builtin.Generator.genWake (.ref a) (.send .none) := by
    show (match entryFor table "generator.__next__" with | some b => b ⟨[.ref a], []⟩ | none => unsupported ((withoutEnding? "generator.__next__" "#data").getD "generator.__next__")) = _
    rw [entry_gen_next]
    rfl
  rw [hden]
  unfold Builtin.Generator.genWake
  have ov : A.over (.builtin "generator.__next__" ⟨[.ref a], []⟩) [] = A.in1 := over_plain slot_gen_next.plain _
  refine cf_bind ?_
  rw [ov]
  refine wpAny_holding (wp_genNumber hg ?_)
  refine cf_bind ?_
  rw [ov]
  refine wpAny_genState hx ?_
  cases x with
  | running => exact hw.elim
  | finished => exact hw.elim
  | _ =>
    refine cf_bind ?_
    rw [ov]
    refine wpAny_roomToWake hlim hroom ?_
    show Conf _ _ _ _ (.resume g (.send .none) [] _) [] s
    refine cf_resume (B := B) (Y := Y) (A' := A') (fun base h => by rw [ov] at h; exact h.le hl) hx hw (fun r s₁ hb => ?_) (fun v s₁ y hy => ?_)
    · obtain rfl := hB r s₁ hb
      refine cf_tree ?_
      rw [ov]
      show wpAny _ A.in1 (newExc (.type "StopIteration") [] >>= _) _ _ _
      refine wpAny_bind ?_
      simp only [newExc, newTuple]
      refine wpAny_bind (wpAny_newObj_type ?_ (by size_fits))
      refine wpAny_bind (m := firstArgMember _ _) (wpAny_of_eq (a := Value.none) (by first | rfl | (simp only [firstArgMember]; rfl)) ?_)
      refine wpAny_newObj_type ?_ (by size_fits)
      simp only [raiseNew]
      refine wpAny_bind (wpAny_bind (wpAny_handled ?_))
      rw [show A.in1.handled = none from hh]
      refine wpAny_throw ?_
      refine cf_back (.error _) (.inr ⟨_, s₁, _, rfl, hb, ⟨_, _, _, rfl, Heap.get?_push_size _ rfl, rfl, rfl, ?_⟩, ⟨fun b o e => Heap.get?_push_of_some _ (Heap.get?_push_of_some _ e), by rw [Heap.size_push, Heap.size_push]; exact Nat.le_trans (Nat.le_succ _) (Nat.le_succ _)⟩, rfl⟩)
      first
        | rfl
        | kernel_rfl
    · exact cf_back (.ok (.ret v)) (.inl ⟨v, s₁, y, rfl, hy, rfl⟩)
end
end Cf
end

section
set_option linter.all false
set_option maxRecDepth 100000
set_option maxHeartbeats 1000000
/-! Statements, in the logic at the machine's level. Nothing raises here but what ends an iterator. -/
namespace Cf
open PySem PyProof.Rows
open Sem (wp)

theorem wbind_eq {α β γ : Type} (m : Sem α) (f : α → Sem β) (K : β → Sem γ) (H : Value → Sem γ) (gd : Bool → Bool) (lv : List Value → List Value) :
    (m >>= f).wrap K H gd lv = m.wrap (fun a => (f a).wrap K H gd lv) H gd lv := by
  rw [Sem.bind_eq_wrap', Sem.wrap_wrap]
  rfl
abbrev NoX : Value → Shared → Prop := fun _ _ => False
section
variable {M : Model} {A : Around} {R : Rest} {c : Code} {fs : List Frame} {s : Shared} {env : Env}
  {H : Value → Sem PySem.Fin} {gd : Bool → Bool} {lv : List Value → List Value}
theorem cf_wrapN {α : Type} {m : Sem α} {K : α → Sem PySem.Fin} (h : wpAny M (A.over c fs) m (fun a s' => Conf M A R c (K a) fs s') NoX s) : Conf M A R c (m.wrap K H gd lv) fs s :=
  cf_wrap (wpAny_mono h (fun _ _ q => q) fun _ _ q => q.elim)
theorem cf_bindN {α : Type} {m : Sem α} {K : α → Sem PySem.Fin} (h : wpAny M (A.over c fs) m (fun a s' => Conf M A R c (K a) fs s') NoX s) : Conf M A R c (m >>= K) fs s :=
  cf_bind (wpAny_mono h (fun _ _ q => q) fun _ _ q => q.elim)
theorem cf_wbindN {α β : Type} {m : Sem α} {f : α → Sem β} {K : β → Sem PySem.Fin}
    (h : wpAny M (A.over c fs) m (fun a s' => Conf M A R c ((f a).wrap K H gd lv) fs s') NoX s) : Conf M A R c ((m >>= f).wrap K H gd lv) fs s :=
  cf_wbind (wpAny_mono h (fun _ _ q => q) fun _ _ q => q.elim)
theorem cf_wholding {α : Type} {vs : List Value} {m : Sem α} {K : α → Sem PySem.Fin} (h : ∀ lv', Conf M A R c (m.wrap K H gd lv') fs s) : Conf M A R c ((holding vs m).wrap K H gd lv) fs s := by
  rw [holding_eq_keep, Sem.keep_eq_wrap, Sem.wrap_wrap]
  exact h _
theorem cf_wonRaise {α : Type} {m : Sem α} {g : Value → Sem Unit} {K : α → Sem PySem.Fin} (h : ∀ H', Conf M A R c (m.wrap K H' gd lv) fs s) : Conf M A R c ((m.onRaise g).wrap K H gd lv) fs s := by
  rw [Sem.onRaise_eq_wrap, Sem.wrap_wrap]
  exact h _
theorem cf_onRaise {m : Sem PySem.Fin} {g : Value → Sem Unit} (h : ∀ H', Conf M A R c (m.wrap .pure H' id id) fs s) : Conf M A R c (m.onRaise g) fs s := by
  rw [Sem.onRaise_eq_wrap]
  exact h _
theorem cf_wattempt {α : Type} {m : Sem α} {K : Except Value α → Sem PySem.Fin}
    (h : ∀ gd', Conf M A R c (m.wrap (fun a => K (.ok a)) (fun e => K (.error e)) gd' lv) fs s) : Conf M A R c (m.attempt.wrap K H gd lv) fs s := by
  show Conf M A R c ((Sem.tryCatch (m.bind fun a => .pure (.ok a)) fun e => .pure (.error e)).wrap K H gd lv) fs s
  rw [Sem.tryCatch_eq_wrap, Sem.bind_eq_wrap, Sem.wrap_wrap, Sem.wrap_wrap]
  exact h _

theorem cf_nil {K : Flow → Sem PySem.Fin} (h : Conf M A R c (K .next) fs s) : Conf M A R c ((execs [] env).wrap K H gd lv) fs s := h
theorem cf_cons {st : Stmt} {rest : List Stmt} {K : Flow → Sem PySem.Fin}
    (h : Conf M A R c ((exec st env).wrap (fun f => match f with | .next => (execs rest env).wrap K H gd lv | f => K f) H gd lv) fs s) :
    Conf M A R c ((execs (st :: rest) env).wrap K H gd lv) fs s := by
  rw [execs_cons_wrap]
  exact h
theorem cf_If {test : Expr} {body orelse : List Stmt} {pos : Pos} {K : Flow → Sem PySem.Fin}
    (h : wpAny M (A.over c fs) (isTrue test env (eval test env)) (fun b s' => Conf M A R c ((execs (if b = true then body else orelse) env).wrap K H gd lv) fs s') NoX s) :
    Conf M A R c ((exec (.If test body orelse pos) env).wrap K H gd lv) fs s := by
  refine cf_at (p' := pos) ?_
  show Conf M A R c ((isTrue test env (eval test env) >>= fun b => if b = true then execs body env else execs orelse env).wrap K H gd lv) fs s
  refine cf_wbindN (wpAny_mono h (fun b s' q => ?_) fun _ _ q => q)
  cases b
  · exact q
  · exact q

/-- what a loop's call does with what comes back -/
def loopK (env : Env) (K : Flow → Sem PySem.Fin) (H : Value → Sem PySem.Fin) (gd : Bool → Bool) (lv : List Value → List Value) : PySem.Result → Sem PySem.Fin := fun r =>
  ((match r with | .ok f => (.pure f : Sem Flow) | .error e => .raise e).onRaise (L2.cameBack env)).wrap K H gd lv
theorem cf_For {tg iter : Expr} {body : List Stmt} {pos : Pos} {K : Flow → Sem PySem.Fin}
    (h : wpAny M (A.over c fs) (eval iter env) (fun v s₁ => wpAny M (A.over c fs) (pyIter v) (fun itv s₂ => ∀ p lv',
      Conf M A R (.forLoop tg itv body [] env) (M.den (.forLoop tg itv body [] env)) (.ret (loopK env K H gd lv) none (gd false) lv' c p [] :: fs) s₂) NoX s₁) NoX s)
    (hs : ∀ x, foldedSetIterable iter env x = pure x := by intro _; rfl) : Conf M A R c ((exec (.For tg iter body [] pos) env).wrap K H gd lv) fs s := by
  rw [exec_For]
  refine cf_wbindN (wpAny_standAt (cf_wbindN (wpAny_mono h (fun v s₁ h₁ => ?_) fun _ _ q => q)))
  refine cf_wbindN (wpAny_of_eq (hs v) (cf_wbindN (wpAny_standAt (cf_wbindN (wpAny_holding (wpAny_mono h₁ (fun itv s₂ h₂ => ?_) fun _ _ q => q))))))
  exact cf_call fun p => h₂ p _

/-- what a turn does with what its body ends in -/
def turnK (tg : Expr) (it : Value) (body : List Stmt) (env : Env) : Flow → Sem PySem.Fin
  | .next | .cont => .pure (.again (.forLoop tg it body [] env))
  | .brk => .pure (.done .next)
  | .ret v => .pure (.done (.ret v))
end

section
variable {prog : Program} {w : World} {A : Around} {R : Rest} {fs : List Frame} {s : Shared} {env : Env}
theorem cf_turnC {tg : Expr} {it : Value} {body : List Stmt}
    (h : ∀ H₁ H₂, Conf (model prog w) A R (.forLoop tg it body [] env) ((pyNext it).wrap (fun r => match r with
      | none => .pure (.again (.block [] env))
      | some v => (letOwnedTupleGo tg it v >>= fun _ => assign tg env v >>= fun _ => execs body env).wrap (turnK tg it body env) H₁ id id) H₂ id id) fs s) :
    Conf (model prog w) A R (.forLoop tg it body [] env) ((model prog w).den (.forLoop tg it body [] env)) fs s := by
  show Conf (model prog w) A R (.forLoop tg it body [] env) ((forTurn tg it body [] env).onRaise (fun x => do noteFrame x env; theTreesLotGoes x)) fs s
  refine cf_onRaise fun H' => ?_
  unfold forTurn
  refine cf_wbindN (wpAny_standAt (cf_wbindC (cf_wonRaise fun H₁ => ?_)))
  have q := h H' H₁
  refine Eq.mp (congrArg (fun K => Conf (model prog w) A R (.forLoop tg it body [] env) ((pyNext it).wrap K H₁ id id) fs s) (funext fun r => ?_)) q
  cases r with
  | none => rfl
  | some v =>
    dsimp only
    simp only [wbind_eq]
    refine Sem.wrap_congr _ _ _ (fun _ => Sem.wrap_congr _ _ _ (fun _ => Sem.wrap_congr _ _ _ (fun f => ?_) fun _ => rfl) fun _ => rfl) fun _ => rfl
    cases f <;> rfl

/-- a turn whose next item is asked for without waking a generator of ours -/
theorem cf_turn {tg : Expr} {it : Value} {body : List Stmt}
    (h : ∀ H, wpAny (model prog w) (A.over (.forLoop tg it body [] env) fs) (pyNext it) (fun r s₁ => match r with
      | none => Conf (model prog w) A R (.forLoop tg it body [] env) (.pure (.again (.block [] env))) fs s₁
      | some v => wpAny (model prog w) (A.over (.forLoop tg it body [] env) fs) (letOwnedTupleGo tg it v) (fun _ s₂ =>
          wpAny (model prog w) (A.over (.forLoop tg it body [] env) fs) (assign tg env v) (fun _ s₃ =>
            Conf (model prog w) A R (.forLoop tg it body [] env) ((execs body env).wrap (turnK tg it body env) H id id) fs s₃) NoX s₂) NoX s₁) NoX s) :
    Conf (model prog w) A R (.forLoop tg it body [] env) ((model prog w).den (.forLoop tg it body [] env)) fs s := by
  refine cf_turnC fun H₁ H₂ => cf_wrapN (wpAny_mono (h H₁) (fun r s₁ q => ?_) fun _ _ q => q)
  cases r with
  | none => exact q
  | some v => exact cf_wbindN (wpAny_mono q (fun _ s₂ q₂ => cf_wbindN (wpAny_mono q₂ (fun _ s₃ q₃ => q₃) fun _ _ q => q)) fun _ _ q => q)
theorem cf_block (h : Conf (model prog w) A R (.block [] env) (.pure (.done .next)) fs s) : Conf (model prog w) A R (.block [] env) ((model prog w).den (.block [] env)) fs s := h
theorem cf_func {body : List Stmt} {env : Env}
    (h : ∀ H, Conf (model prog w) A R (.func body env) ((execs body env).wrap (fun f => .pure (.done (.ret (match f with | .ret v => v | _ => .none)))) H id id) [] s) :
    Conf (model prog w) A R (.func body env) ((model prog w).den (.func body env)) [] s := by
  show Conf (model prog w) A R (.func body env) (.point [] fun _ => ((execs body env).onRaise (leaving env)) >>= _) [] s
  refine cf_point ?_
  rw [Sem.onRaise_eq_wrap, Sem.bind_eq_wrap', Sem.wrap_wrap]
  refine Eq.mp (congrArg (fun K => Conf (model prog w) A R (.func body env) ((execs body env).wrap K _ id id) [] s) (funext fun f => ?_)) (h _)
  cases f <;> rfl

section
variable {a g : Nat} {x : GenState} {B : PySem.Result → Shared → Prop} {Y : Value → Shared → GenState → Prop} {A' : Around} {c : Code} {H : Value → Sem PySem.Fin} {gd : Bool → Bool} {lv : List Value → List Value}
theorem cf_callNext {K : Option Value → Sem PySem.Fin} (hn : NoH fs = true) (hg : GenAt s.heap a g) (hx : s.gens[g]? = some x) (hw : Wake (model prog w) A' g x (.send .none) (s.setGen g .running) B Y)
    (hl : Le (A.over c fs).in1 A') (hh : (A.over c fs).handled = none) (hlim : s.heap.NoLimit) (hroom : (A.over c fs).depth < recursionLimit) (hB : ∀ r s', B r s' → r = .ok (.ret .none))
    (kY : ∀ v s' y, Y v s' y → Conf (model prog w) A R c (K (some v)) fs (s'.setGen g y))
    (kB : ∀ e s₁ h', B (.ok (.ret .none)) s₁ → L2.StopX e h' → Up s₁.heap h' → Conf (model prog w) A R c (H e) fs { s₁.setGen g .finished with heap := h' }) :
    Conf (model prog w) A R c ((callSpecial? (.ref a) "__next__").wrap K H gd lv) fs s := by
  unfold callSpecial?
  refine cf_wbindN (wpAny_specialOf hg.typeIs slot_gen_next.lookup ?_)
  dsimp only
  refine cf_wholding fun lv' => ?_
  rw [slot_gen_next.bind]
  show Conf (model prog w) A R c ((PySem.call (.builtin "generator.__next__") [.ref a] >>= fun v => pure (some v)).wrap K H gd lv') fs s
  refine cf_wbindC (cf_value hn (call_next hg hx hw hl hh hlim hroom hB) (Le.refl _) fun r s' hr => ?_)
  rcases hr with ⟨v, s₁, y, rfl, hy, rfl⟩ | ⟨e, s₁, h', rfl, hb, hs, hk, rfl⟩
  · exact kY v s₁ y hy
  · exact kB e s₁ h' hb hs hk
theorem cf_pyNext {K : Option Value → Sem PySem.Fin} (hn : NoH fs = true) (hg : GenAt s.heap a g) (hx : s.gens[g]? = some x) (hw : Wake (model prog w) A' g x (.send .none) (s.setGen g .running) B Y)
    (hl : Le (A.over c fs).in1 A') (hh : (A.over c fs).handled = none) (hlim : s.heap.NoLimit) (hroom : (A.over c fs).depth < recursionLimit) (hB : ∀ r s', B r s' → r = .ok (.ret .none))
    (kY : ∀ v s' y, Y v s' y → Conf (model prog w) A R c (K (some v)) fs (s'.setGen g y))
    (kB : ∀ s₁ h', B (.ok (.ret .none)) s₁ → Up s₁.heap h' → Conf (model prog w) A R c (K none) fs { s₁.setGen g .finished with heap := h' }) :
    Conf (model prog w) A R c ((pyNext (.ref a)).wrap K H gd lv) fs s := by
  unfold pyNext
  refine cf_wbindC (cf_wattempt fun gd' => cf_callNext hn hg hx hw hl hh hlim hroom hB (fun v s' y hy => ?_) (fun e s₁ h' hb hs hk => ?_))
  · exact kY v s' y hy
  · obtain ⟨b, o, vs, rfl, hb', hc, hd, _⟩ := hs
    refine cf_wbindN (wpAny_isInstance (T := "StopIteration") (b := true) ⟨o, hb', hc⟩ isSubtype_stop ?_)
    exact kB s₁ h' hb hk
end

/-! ### handing out -/
section
variable {M : Model} {A : Around} {R : Rest} {c : Code} {fs : List Frame} {s : Shared} {env : Env} {g : Nat} {B : PySem.Result → Shared → Prop} {Y : Value → Shared → GenState → Prop}
  {H : Value → Sem PySem.Fin} {gd : Bool → Bool} {lv : List Value → List Value}
/-- the statement «yield e»: where it is woken, K goes on -/
theorem cf_Yield {e : Expr} {yp pos : Pos} {K : Flow → Sem PySem.Fin} (hfs : splitAtGen fs = none) (hgd : gd false = false) (hfg : fs.any Frame.guarded = false) (hco : env.scope.isCoroutine = false)
    (hi : interactive env = false)
    (h : wpAny M (A.over c fs) (eval e env) (fun v s' => ∀ k l p, (k (.send .none) = K .next) → Y v s' (.suspended k l c p fs false)) NoX s) :
    Conf M A (GRest M g B Y) c ((exec (.Expr (.Yield (some e) yp) pos) env).wrap K H gd lv) fs s := by
  rw [exec_Expr env _ pos hi rfl]
  refine cf_at (p' := pos) ?_
  show Conf M A (GRest M g B Y) c (((eval e env >>= fun v => (standAt yp >>= fun _ => yieldOut env v)) >>= fun x => dropValue (.Yield (some e) yp) pos x).wrap K H gd lv) fs s
  have hy : ∀ v, yieldOut env v = yieldValue v := fun v => by simp only [yieldOut, hco, Bool.false_eq_true, if_false]
  simp only [hy]
  refine cf_wbindC (cf_wbindN (wpAny_mono h (fun v s' q => ?_) fun _ _ q => q))
  refine cf_at (p' := yp) ?_
  show Conf M A (GRest M g B Y) c (.yield v (gd false) (lv []) _) fs s'
  rw [hgd]
  exact cf_yield hfs hfg fun p => q _ _ p rfl
end
end
end Cf
end

section
set_option linter.all false
set_option maxRecDepth 100000
set_option maxHeartbeats 1000000
/-! «yield from» over a generator. -/
namespace Cf
open PySem PyProof.Rows
open Sem (wp)

/-- how often a delegator sleeps over it -/
def slotv (o : Obj) : Int := match (o.slots[0]? : Option (Option Value)) with
  | some (some (.int n _)) => n
  | _ => 0
def marked (z : Int) (o : Obj) : Obj := { o with slots := (o.slots ++ Array.replicate (0 + 1 - o.slots.size) Option.none).setIfInBounds 0 (some (rawInt z)) }
theorem slotv_marked (z : Int) (o : Obj) : slotv (marked z o) = z := by
  obtain ⟨c, d, dt, sl⟩ := o
  have e : ((sl ++ Array.replicate (0 + 1 - sl.size) (Option.none : Option Value)).setIfInBounds 0 (some (rawInt z)))[0]? = some (some (rawInt z)) := by
    rw [Array.getElem?_setIfInBounds_self_of_lt]
    rw [Array.size_append, Array.size_replicate]
    omega
  unfold slotv marked
  dsimp only
  rw [e]
  rfl
theorem GenAt.of {h : Heap} {a g : Nat} {o : Obj} {nm qn : Value} (ho : h.get? a = some o) (hc : o.cls = .type "generator") (hd : o.data = .fields #[.int g 0, nm, qn]) (hz : slotv o ≤ 0) : GenAt h a g := by
  refine ⟨o, nm, qn, ho, hc, hd, fun n t e => ?_⟩
  unfold slotv at hz
  rw [e] at hz
  exact hz
section
variable {M : Model} {A : Around} {E : Value → Shared → Prop} {s : Shared}
theorem wp_slept {a : Addr} {o : Obj} {more : Bool} {Q : Unit → Shared → Prop} (ho : s.heap.get? a = some o) (hc : o.cls = .type "generator")
    (h : Q () { s with heap := s.heap.update a (marked (if more then slotv o + 1 else slotv o - 1)) }) : wpAny M A (Builtin.Generator.sleptOver (.ref a) more) Q E s := by
  unfold Builtin.Generator.sleptOver
  refine wpAny_bind (wpAny_load ho ?_)
  rw [if_neg (by rw [hc]; decide)]
  refine wpAny_bind (wpAny_pure ?_)
  refine wpAny_update ho ?_
  cases more
  · exact h
  · exact h
end
theorem plain_yf : plainId "proto.yield_from" = true := L2.plain_yf
theorem close_gen : ∃ v, typeLookup (.type "generator") "close" = pure (some v) := ⟨.builtin "generator.close", by rw [typeLookup_type, builtinLookup_eq_fast]; kernel_rfl⟩
theorem den_yfi {prog : Program} {w : World} {it : Value} : (model prog w).den (.builtin "proto.yield_from" ⟨[it, .bool false, .none], []⟩) = Builtin.«proto.yield_from» ⟨[it, .bool false, .none], []⟩ :=
  @L2.den_yf (X := ⟨prog, w, [], fun _ => none, {}, ⟨none, 0, none, none, 0⟩, [], {}, fun _ => none, default, [], [], [], fun _ => false, true, [], fun _ _ => False⟩) it
abbrev yfc (a : Addr) : Code := .builtin "proto.yield_from" ⟨[.ref a, .bool false, .none], []⟩
section
variable {prog : Program} {w : World} {A : Around} {fs : List Frame} {s : Shared} {a gc g : Nat} {x : GenState} {B Bc : PySem.Result → Shared → Prop} {Y Yc : Value → Shared → GenState → Prop} {A' : Around}
/-- where the delegator is woken: it asks on -/
def YfWoken (prog : Program) (w : World) (a : Addr) (k : Resume → Sem PySem.Fin) (fs : List Frame) : Prop :=
  ∀ (A : Around) (g : Nat) (B : PySem.Result → Shared → Prop) (Y : Value → Shared → GenState → Prop) (s : Shared) (o : Obj), s.heap.get? a = some o → o.cls = .type "generator" →
    Conf (model prog w) A (GRest (model prog w) g B Y) (yfc a) ((model prog w).den (yfc a)) fs { s with heap := s.heap.update a (marked (slotv o - 1)) } →
    Conf (model prog w) A (GRest (model prog w) g B Y) (yfc a) (k (.send .none)) fs s
theorem cf_yf (hfs : splitAtGen fs = none) (hfg : fs.any Frame.guarded = false) (hn : NoH fs = true) (hg : GenAt s.heap a gc) (hx : s.gens[gc]? = some x)
    (hw : Wake (model prog w) A' gc x (.send .none) (s.setGen gc .running) Bc Yc)
    (hl : Le (A.over (yfc a) fs).in1 A') (hh : (A.over (yfc a) fs).handled = none) (hlim : s.heap.NoLimit) (hroom : (A.over (yfc a) fs).depth < recursionLimit) (hB : ∀ r s', Bc r s' → r = .ok (.ret .none))
    (kY : ∀ v s₁ y, Yc v s₁ y → ∃ o n vs, s₁.heap.get? a = some o ∧ o.cls = .type "generator" ∧ o.data = .fields vs ∧ o.genNumber? = some n ∧
      ∀ k l p, YfWoken prog w a k fs → Y v { s₁.setGen gc y with heap := s₁.heap.update a (marked (slotv o + 1)) } (.suspended k l (yfc a) p fs true))
    (kB : ∀ s₁ h', Bc (.ok (.ret .none)) s₁ → Up s₁.heap h' →
      Conf (model prog w) A (GRest (model prog w) g B Y) (yfc a) (.pure (.done (.ret .none))) fs { s₁.setGen gc .finished with heap := h' }) :
    Conf (model prog w) A (GRest (model prog w) g B Y) (yfc a) ((model prog w).den (yfc a)) fs s := by
  rw [den_yfi, ← wrap_id (Builtin.«proto.yield_from» _)]
  unfold Builtin.«proto.yield_from»
  dsimp only
  refine cf_wbindN (wpAny_pure ?_)
  refine cf_wbindC (cf_wattempt fun gd' => cf_wholding fun lv' => ?_)
  rw [if_neg Bool.false_ne_true, if_pos (show (Value.none == Value.none) = true from rfl)]
  refine cf_wbindN (wpAny_rule (cf_wbindC (cf_callNext hn hg hx hw hl hh hlim hroom hB (fun v s₁ y hy => ?_) (fun e s₁ h' hb hs hk => ?_))))
  · obtain ⟨o, n, vs, ho, hc, hd, hgn, q⟩ := kY v s₁ y hy
    obtain ⟨cl, hcl⟩ := close_gen
    have hoS : (s₁.setGen gc y).heap.get? a = some o := ho
    show Conf _ A _ (yfc a) (Sem.wrap _ _ _ _ (typeOf (.ref a) >>= fun _ => _)) fs _
    refine cf_wbindN (wpAny_typeOf (T := "generator") ⟨o, hoS, hc⟩ ?_)
    dsimp only
    refine cf_wbindN (wpAny_bind (m := typeLookup (.type "generator") "close") (wpAny_of_eq hcl (wpAny_pure ?_)))
    refine cf_wbindN (wpAny_pure ?_)
    refine cf_wbindN (wp_slept (more := true) hoS hc ?_)
    show Conf _ A _ (yfc a) (.yield v true [] _) fs _
    have hup : ((s₁.setGen gc y).heap.update a (marked (slotv o + 1))).get? a = some (marked (slotv o + 1) o) := by
      exact Heap.get?_update_self _ hoS (Obj.isFreed_of_fields (vs := vs) hd)
    refine cf_yieldG (o := marked (slotv o + 1) o) (n := n) hup ?_ hfs hfg fun p => q _ _ p ?_
    · exact hgn
    · intro A₂ g₂ B₂ Y₂ s₂ o₂ ho₂ hc₂ hC
      refine cf_wbindN (wpAny_pure ?_)
      refine cf_wbindN (wp_slept (more := false) ho₂ hc₂ ?_)
      refine cf_wbindN (wpAny_of_eq (a := Value.none) rfl ?_)
      exact cf_again (plainId_quiet plain_yf _) hC
  · obtain ⟨b, o, vs, rfl, hb', hc, hd, h5⟩ := hs
    refine cf_wbindN (L2.wpAny_endsTurn hb' hc ?_)
    rw [if_pos rfl]
    refine cf_wbindN (wpAny_rule (cf_wbindN (wpAny_field hb' hd h5 ?_)))
    exact kB s₁ h' hb hk
end
end Cf
end

section
set_option linter.all false
set_option maxRecDepth 100000
set_option maxHeartbeats 1000000
/-! The heap never shrinks; the plain facts (library HandS) over a table of generators in which some sleep; the bodies' invariant, from wake to wake. -/
namespace Cf
open PySem PyProof.Rows
open Sem (wp)

theorem runs_hsz {M : Model} {Γ : Ctx} {p : Pos} {t : Sem PySem.Fin} {fs : List Frame} {s s' : Shared} {e : End} (h : Runs M Γ p t fs s e s') : s.heap.objs.size ≤ s'.heap.objs.size := by
  induction h <;> (try simp only [Shared.setGen, Heap.size_push, Heap.size_update] at *) <;> omega
theorem wakes_hsz {M : Model} {Γ : Ctx} {p : Pos} {g : Nat} {r : Resume} {s s' : Shared} {res : GenResult} (h : Wakes M Γ p g r s res s') : s.heap.objs.size ≤ s'.heap.objs.size := by
  unfold Wakes at h
  split at h
  · exact h.elim
  · split at h
    · obtain ⟨e₁, s₁, hr, _, _, rfl⟩ := h
      have q := runs_hsz hr; exact q
    · rw [h.2]; exact Nat.le_refl _
    · rw [h.2]; exact Nat.le_refl _
  · obtain ⟨e₁, s₁, hr, _, _, rfl⟩ := h
    have q := runs_hsz hr; exact q
  · rw [h.2]; exact Nat.le_refl _
  · rw [h.2]; exact Nat.le_refl _
theorem wp_hsz {α : Type} (M : Model) (Γ : Ctx) (n : Nat) (t : Sem α) : ∀ (Q : α → Pos → Shared → Prop) (E : Value → Pos → Shared → Prop) (p : Pos) (s : Shared), n ≤ s.heap.objs.size → wp M Γ t Q E p s →
    wp M Γ t (fun a p' s' => n ≤ s'.heap.objs.size ∧ Q a p' s') (fun e p' s' => n ≤ s'.heap.objs.size ∧ E e p' s') p s := by
  induction t with
  | pure a => intro Q E p s hn h; exact ⟨hn, h⟩
  | raise e => intro Q E p s hn h; exact ⟨hn, h⟩
  | unsupported _ => intro Q E p s _ h; exact h
  | finish _ => intro Q E p s _ h; exact h
  | rule _ k ih => intro Q E p s hn h; exact ih () Q E p s hn h
  | «at» p' k ih => intro Q E p s hn h; exact ih () Q E p' s hn h
  | load a _ k ih => intro Q E p s hn h; obtain ⟨o, ho, h⟩ := h; exact ⟨o, ho, ih o Q E p s hn h⟩
  | update a _ f k ih =>
    intro Q E p s hn h
    refine ⟨h.1, ih () Q E p _ ?_ h.2⟩
    show n ≤ (s.heap.update a f).objs.size
    rw [Heap.size_update]; exact hn
  | loadIfAlive a k ih => intro Q E p s hn h; exact ih _ Q E p s hn h
  | point _ k ih => intro Q E p s hn h; exact ih () Q E p s hn h
  | register _ _ => intro Q E p s _ h; exact h
  | alloc o k ih =>
    intro Q E p s hn h
    refine ih _ Q E p _ ?_ h
    show n ≤ (s.heap.push o).objs.size
    rw [Heap.size_push]; omega
  | fresh k ih => intro Q E p s hn h; exact ih _ Q E p _ hn h
  | ask k ih => intro Q E p s hn h; exact ih _ Q E p s hn h
  | choose src m k ih => intro Q E p s hn h; exact ⟨h.1, ih _ Q E p _ hn h.2⟩
  | os q _ k ih => intro Q E p s hn h; exact ih _ Q E p _ hn h
  | call c hd _ _ k ih => intro Q E p s hn h; obtain ⟨r, s', hr, h⟩ := h; exact ⟨r, s', hr, ih r Q E p s' (Nat.le_trans hn (runs_hsz hr)) h⟩
  | handled own k ih => intro Q E p s hn h; exact ih _ Q E p s hn h
  | genState g k ih => intro Q E p s hn h; obtain ⟨st, hs, h⟩ := h; exact ⟨st, hs, ih _ Q E p s hn h⟩
  | newGen c k ih => intro Q E p s hn h; exact ih _ Q E p _ hn h
  | resume g r _ k ih => intro Q E p s hn h; obtain ⟨res, s', hw, h⟩ := h; exact ⟨res, s', hw, ih res Q E p s' (Nat.le_trans hn (wakes_hsz hw)) h⟩
  | yield _ _ _ _ => intro Q E p s _ h; exact h
  | stack k ih => intro Q E p s hn h; exact ih _ Q E p s hn h
  | fork _ _ => intro Q E p s _ h; exact h
  | thread k ih => intro Q E p s hn h; exact ih _ Q E p s hn h
  | await _ _ _ _ _ => intro Q E p s _ h; exact h

/-- from table to table: what has begun stands; all else is bare -/
structure GK (G G' : Array GenState) : Prop where
  old : ∀ (i : Nat) (x : GenState), G[i]? = some x → inert x = true → G'[i]? = some x
  new : ∀ (i : Nat) (x : GenState), G'[i]? = some x → G[i]? = some x ∨ x.bare = true
  sz : G.size ≤ G'.size
theorem GK.refl (G : Array GenState) : GK G G := ⟨fun _ _ e _ => e, fun _ _ e => .inl e, Nat.le_refl _⟩
theorem GK.trans {A B C : Array GenState} (a : GK A B) (b : GK B C) : GK A C :=
  ⟨fun i x e h => b.old i x (a.old i x e h) h, fun i x e => (b.new i x e).elim (fun q => a.new i x q) .inr, Nat.le_trans a.sz b.sz⟩
/-- the twin table's fresh entries are the true one's -/
structure FK (G G' : Array GenState) : Prop where
  fresh : ∀ (i : Nat) (c : Code), G[i]? = some (.fresh c) → G'[i]? = some (.fresh c)
  size : G.size = G'.size
/-- a plain fact, over the true table -/
theorem wp_plain {α : Type} {M : Model} {A : Around} {m : Sem α} {s : Shared} {Q : α → Shared → Prop}
    (h : wpAny M A m (fun a s' => AllBare s'.gens ∧ Q a s') NoX (wg s (hush s.gens))) :
    wpAny M A m (fun a s' => ∃ G, Q a (wg s' G) ∧ FK G s'.gens ∧ GK s.gens s'.gens ∧ s.heap.objs.size ≤ s'.heap.objs.size) NoX s := by
  intro Γ p hΓ
  have h1 := wp_twin (G₀ := s.gens) m p _ (h Γ p hΓ) s.gens (tw_hush _)
  have h2 := wp_hsz M Γ s.heap.objs.size m _ _ p _ (Nat.le_refl _) (GenW.wp_gsz M Γ s.gens.size m _ _ p s (Nat.le_refl _) h1)
  refine Sem.wp_mono M Γ m ?_ ?_ _ _ h2
  · rintro a _ s' ⟨hs, hz, s₁, B, ⟨hb, q⟩, ht, rfl⟩
    refine ⟨s₁.gens, q, ⟨fun i c e => (ht.fresh e).2, ht.size⟩, ⟨fun i x e hi => (ht.old i x e hi).2, fun i x e => ?_, hz⟩, hs⟩
    rcases free_or s.gens i with hf | ⟨y, ey, hy⟩
    · refine .inr (hb x ?_)
      have := ht.rest i hf
      have e' : B[i]? = some x := e
      rw [e'] at this
      exact Array.mem_of_getElem? this
    · have := (ht.old i y ey hy).2
      have e' : B[i]? = some x := e
      rw [e'] at this
      cases this
      exact .inl ey
  · rintro e _ s' ⟨_, _, s₁, B, q, _, _⟩
    exact q.elim

/-! ### a body -/
open Classical in
structure BC where
  prog : Program
  w : World
  K : PySem.W.Frag
  mg : Str → Option Value
  base : Heap
  A : Around
  N : List Str
  qual : Str
  scope : Scope
  f : Addr
  cd : Value
  outer : List Env
  L : Addr
abbrev BC.env (C : BC) : Env := envOfC C.qual C.scope C.L C.f C.cd
abbrev BC.M (C : BC) : Model := model C.prog C.w
structure BC.Ok (C : BC) : Prop where
  mod : L2.Mod C.K C.mg C.base
  kind : C.scope.kind = .function
  flat : ∀ x, C.env.cells.lookup x = none
  nofc : ∀ x, C.env.kindOf x ≠ some .cell ∧ C.env.kindOf x ≠ some .free
  hd : C.A.handled = none
  frames : C.A.frames = some C.outer
  bsz : C.base.objs.size ≤ C.L
  frlt : ∀ b ∈ L2.frs C.outer, b < C.L

def cut (n : Nat) (h : Heap) : Heap := { h with objs := h.objs.extract 0 n }
theorem cut_size (n : Nat) (h : Heap) : (cut n h).objs.size = min n h.objs.size := by
  show (h.objs.extract 0 n).size = _
  rw [Array.size_extract]; omega
theorem cut_objs (n : Nat) (h : Heap) (b : Nat) : (cut n h).objs[b]? = if b < n then h.objs[b]? else none := by
  show (h.objs.extract 0 n)[b]? = _
  rw [Array.getElem?_extract]
  split <;> split <;> first | rfl | (simp; omega) | skip
  all_goals first | omega | (simp only [Nat.zero_add]) | skip
  all_goals first | (rw [Array.getElem?_eq_none (by omega)]) | skip
theorem cut_get {n : Nat} {h : Heap} {b : Nat} {o : Obj} : (cut n h).get? b = some o ↔ b < n ∧ h.get? b = some o := by
  rw [Heap.get?_some_iff, Heap.get?_some_iff, cut_objs]
  by_cases q : b < n
  · simp [q]
  · simp [q]
def BC.cx (C : BC) (H : L2.Hp) (s : Shared) : L2.Cx where
  prog := C.prog
  w := C.w
  K := C.K
  mg := C.mg
  base := C.base
  A := C.A.deeper C.env
  N := C.N
  s_0 := { s with heap := cut C.L s.heap }
  H_0 := fun b => if b < C.L then H b else none
  env := C.env
  outer := C.outer
  stack := C.env :: C.outer
  ex := []
  fn := fun _ => true
  calm := true
  pn := []
  xe := NoX
/-- what a body knows, from wake to wake -/
structure BI (C : BC) (σ : L2.St) (H : L2.Hp) (s : Shared) : Prop where
  bs : ∀ b o, C.base.get? b = some o → s.heap.get? b = some o ∧ H b = none
  funs : s.heap.FunFrames C.base C.outer
  frf : ∀ b ∈ L2.frs C.outer, H b = none
  loc : ∃ m, s.heap.Ns C.L m ∧ ∀ (i : Nat) (x : Str) (v : L2.V), C.N[i]? = some x → σ[i]? = some (some v) → L2.Vis C.scope x → ∃ u, L2.RelV v u ∧ L2.Look C.env s.heap m x u
  free : H C.L = none
  hok : L2.HOk C.prog C.w H s.heap
  len : σ.length = C.N.length
theorem BI.lt {C : BC} {σ : L2.St} {H : L2.Hp} {s : Shared} (I : BI C σ H s) : C.L < s.heap.objs.size := let ⟨_, hn, _⟩ := I.loc; hn.lt
theorem cut_funs {n : Nat} {h base : Heap} : ∀ {l : List Env}, (∀ b ∈ L2.frs l, b < n) → h.FunFrames base l → (cut n h).FunFrames base l
  | [], _, _ => trivial
  | env :: r, hl, hf => by
    obtain ⟨hk, ⟨L, o, e1, e2, e3, e4⟩, hr⟩ := hf
    have hL : L < n := hl L (by unfold L2.frs; rw [List.filterMap_cons, e1]; exact List.mem_cons_self)
    exact ⟨hk, ⟨L, o, e1, e2, cut_get.mpr ⟨hL, e3⟩, e4⟩, cut_funs (fun b hb => hl b (by unfold L2.frs; rw [List.filterMap_cons, e1]; exact List.mem_cons_of_mem _ hb)) hr⟩
section
variable {C : BC} {σ : L2.St} {H : L2.Hp} {s : Shared}
theorem BI.inv (ok : C.Ok) (I : BI C σ H s) {G : Array GenState} (hG : AllBare G) {pins : List (Addr × Obj)}
    (hp : ∀ p ∈ pins, s.heap.get? p.1 = some p.2 ∧ H p.1 = none ∧ p.1 ≠ C.L ∧ p.1 ∉ L2.frs C.outer ∧ ∀ v, p.2.data ≠ .cell v) : L2.Inv (C.cx H s) pins σ H (wg s G) := by
  have nocell : ∀ {x c}, C.env.cells.lookup x = some c → False := fun {x c} e => by rw [ok.flat x] at e; cases e
  have hb : ∀ b o, (cut C.L s.heap).get? b = some o → s.heap.get? b = some o := fun b o e => (cut_get.mp e).2
  have hH : ∀ b o, (cut C.L s.heap).get? b = some o → (if b < C.L then H b else none) = none → H b = none := fun b o e n => by
    rw [if_pos (cut_get.mp e).1] at n; exact n
  have hT : ∀ b u, (if b < C.L then H b else none) = some u → H b = some u := fun b u e => by
    split at e
    · exact e
    · cases e
  refine ⟨⟨ok.mod, ok.kind, rfl, rfl, ?_, fun x y c e _ => (nocell e).elim, fun x hx => ?_, fun x c _ e => (nocell e).elim, fun _ => ok.hd, Around.frames_deeper ok.frames, .inr ⟨rfl, rfl⟩, fun b z => (nomatch z), fun b o e => ?_, ?_,
    fun _ _ _ z => (nomatch z), fun b z => (nomatch z), cut_funs ok.frlt I.funs, fun b hb => ?_⟩, rfl, hG, ⟨fun b o e n _ _ => hb b o e, fun b o e n _ _ => ⟨o.slots, hb b o e⟩, fun b o e n _ => hH b o e n, fun b o e _ => ⟨o, hb b o e⟩, fun b xs e => hT b _ e, fun b o u e => hT b _ e, fun b ps e => ⟨#[], by rw [hT b _ e]; simp⟩⟩,
    I.loc, fun x c e => (nocell e).elim, I.free, fun x c e => (nocell e).elim, fun p hp' => ?_, I.hok, I.len⟩
  · show (cut C.L s.heap).objs.size ≤ C.L
    rw [cut_size]; exact Nat.min_le_left _ _
  · rcases hx with q | q
    · exact absurd q (ok.nofc x).1
    · exact absurd q (ok.nofc x).2
  · have hlt : b < C.L := Nat.lt_of_lt_of_le (Heap.lt_size e) ok.bsz
    refine ⟨cut_get.mpr ⟨hlt, (I.bs b o e).1⟩, ?_⟩
    show (if b < C.L then H b else none) = none
    rw [if_pos hlt]; exact (I.bs b o e).2
  · show C.base.objs.size ≤ (cut C.L s.heap).objs.size
    rw [cut_size]
    exact Nat.le_min.mpr ⟨ok.bsz, Nat.le_trans ok.bsz (Nat.le_of_lt I.lt)⟩
  · show (if b < C.L then H b else none) = none
    rw [if_pos (ok.frlt b hb)]; exact I.frf b hb
  · exact hp p (by simpa [BC.cx] using hp')
theorem BI.of {s₀ s' : Shared} {H₀ : L2.Hp} {pins : List (Addr × Obj)} (I : L2.Inv (C.cx H₀ s₀) pins σ H s) (hs : s'.heap = s.heap) : BI C σ H s' := by
  refine ⟨fun b o e => ?_, ?_, fun b hb => ?_, ?_, I.free, ?_, I.len⟩
  · rw [hs]; exact I.bs b o e
  · rw [hs]; exact I.funs
  · obtain ⟨_, o, ho, _⟩ := I.ok.funs.mem hb
    exact I.base.free b o ho (I.ok.frf b hb) fun z => nomatch z
  · rw [hs]; exact I.loc
  · rw [hs]; exact I.hok

open Classical in
/-- all that a plain statement leaves as it is, but ex -/
noncomputable def allP (C : BC) (H : L2.Hp) (h : Heap) (ex : List Addr) : List (Addr × Obj) := (List.range h.objs.size).filterMap fun b => match h.get? b with
  | some o => if H b = none ∧ b ≠ C.L ∧ b ∉ L2.frs C.outer ∧ b ∉ ex ∧ ∀ v, o.data ≠ .cell v then some (b, o) else none
  | none => none
theorem mem_allP {h : Heap} {ex : List Addr} {b : Addr} {o : Obj} : (b, o) ∈ allP C H h ex ↔ h.get? b = some o ∧ H b = none ∧ b ≠ C.L ∧ b ∉ L2.frs C.outer ∧ b ∉ ex ∧ ∀ v, o.data ≠ .cell v := by
  unfold allP
  rw [List.mem_filterMap]
  constructor
  · rintro ⟨a, _, e⟩
    cases q : h.get? a with
    | none => rw [q] at e; simp at e
    | some u =>
      rw [q] at e
      dsimp only at e
      split at e
      · rename_i hc
        cases e
        exact ⟨q, hc⟩
      · cases e
  · rintro ⟨e, hc⟩
    refine ⟨b, List.mem_range.mpr (Heap.lt_size e), ?_⟩
    rw [e]
    dsimp only
    rw [if_pos hc]
/-- from state to state: what stays -/
structure Kp (C : BC) (ex : List Addr) (H : L2.Hp) (s : Shared) (H' : L2.Hp) (s' : Shared) : Prop where
  os : s'.os = s.os
  keep : ∀ b o, s.heap.get? b = some o → H b = none → b ≠ C.L → b ∉ L2.frs C.outer → b ∉ ex → (∀ v, o.data ≠ .cell v) → s'.heap.get? b = some o ∧ H' b = none
  slot : ∀ b o, b ∈ L2.frs C.outer → s.heap.get? b = some o → ∃ sl, s'.heap.get? b = some { o with slots := sl }
  gens : GK s.gens s'.gens
  sz : s.heap.objs.size ≤ s'.heap.objs.size
/-- THE RULE of a plain statement (or test, or expression) in a body -/
theorem run_plainG {α : Type} (ok : C.Ok) (I : BI C σ H s) (ex : List Addr) {m : Sem α} {Post : α → L2.St → L2.Hp → Shared → Prop}
    (h : ∀ pins, (∀ p ∈ pins, p.1 ∉ ex) → L2.Inv (C.cx H s) pins σ H (wg s (hush s.gens)) →
      wpAny C.M (C.A.deeper C.env) m (fun a s' => ∃ σ' H', L2.Inv (C.cx H s) pins σ' H' s' ∧ Post a σ' H' s') NoX (wg s (hush s.gens))) :
    wpAny C.M (C.A.deeper C.env) m (fun a s' => ∃ σ' H' G, BI C σ' H' s' ∧ Post a σ' H' (wg s' G) ∧ FK G s'.gens ∧ Kp C ex H s H' s') NoX s := by
  have hp : ∀ p ∈ allP C H s.heap ex, s.heap.get? p.1 = some p.2 ∧ H p.1 = none ∧ p.1 ≠ C.L ∧ p.1 ∉ L2.frs C.outer ∧ ∀ v, p.2.data ≠ .cell v := fun ⟨b, o⟩ hm => by
    obtain ⟨e1, e2, e3, e4, _, e6⟩ := mem_allP.mp hm
    exact ⟨e1, e2, e3, e4, e6⟩
  have q := h (allP C H s.heap ex) (fun ⟨b, o⟩ hm => (mem_allP.mp hm).2.2.2.2.1) (I.inv ok (hush_bare _) hp)
  refine wpAny_mono (wp_plain (wpAny_mono q (fun a s' hq => (⟨?_, hq⟩ : AllBare s'.gens ∧ _)) fun _ _ z => z)) (fun a s' hq => ?_) fun _ _ z => z
  · obtain ⟨_, _, J, _⟩ := hq; exact J.bare
  · obtain ⟨G, ⟨σ', H', J, hP⟩, hf, hg, hs⟩ := hq
    refine ⟨σ', H', G, BI.of J rfl, hP, hf, ⟨J.os, fun b o e1 e2 e3 e4 e5 e6 => ?_, fun b o hb e => ?_, hg, hs⟩⟩
    · obtain ⟨z1, z2, _⟩ := J.pin (b, o) (List.mem_append_right _ (mem_allP.mpr ⟨e1, e2, e3, e4, e5, e6⟩))
      exact ⟨z1, z2⟩
    · have hl := ok.frlt b hb
      exact J.base.slot b o (cut_get.mpr ⟨hl, e⟩) (by show (if b < C.L then H b else none) = none; rw [if_pos hl]; exact I.frf b hb) hb fun z => nomatch z
theorem run_plain {α : Type} (ok : C.Ok) (I : BI C σ H s) (ex : List Addr) {m : Sem α} {Post : α → L2.St → L2.Hp → Prop}
    (h : ∀ pins, (∀ p ∈ pins, p.1 ∉ ex) → L2.Inv (C.cx H s) pins σ H (wg s (hush s.gens)) →
      wpAny C.M (C.A.deeper C.env) m (fun a s' => ∃ σ' H', L2.Inv (C.cx H s) pins σ' H' s' ∧ Post a σ' H') NoX (wg s (hush s.gens))) :
    wpAny C.M (C.A.deeper C.env) m (fun a s' => ∃ σ' H', BI C σ' H' s' ∧ Post a σ' H' ∧ Kp C ex H s H' s') NoX s :=
  wpAny_mono (run_plainG (Post := fun a σ' H' _ => Post a σ' H') ok I ex h) (fun _ _ ⟨σ', H', _, h1, h2, _, h3⟩ => ⟨σ', H', h1, h2, h3⟩) fun _ _ z => z
end
end Cf
end

section
set_option linter.all false
set_option maxRecDepth 100000
set_option maxHeartbeats 1000000
/-! A generator from wake to wake: what it and its consumer leave to each other. -/
namespace Cf
open PySem PyProof.Rows
open Sem (wp)

def Same (H H' : L2.Hp) : Prop := ∀ b u, H b = some u → H' b = some u
theorem Same.refl (H : L2.Hp) : Same H H := fun _ _ e => e
theorem Same.trans {A B C : L2.Hp} (a : Same A B) (b : Same B C) : Same A C := fun x u e => b x u (a x u e)
/-- a generator's: C its body; n, gn: the sizes of heap and table as it was first woken; g its number -/
structure Gn extends BC where
  n : Nat
  gn : Nat
  g : Nat
/-- what the generator's step leaves as it is -/
structure Stp (C : Gn) (H : L2.Hp) (s : Shared) (H' : L2.Hp) (s' : Shared) : Prop where
  os : s'.os = s.os
  keep : ∀ b o, b < C.n → b ≠ C.L → b ∉ L2.frs C.outer → s.heap.get? b = some o → H b = none → (∀ v, o.data ≠ .cell v) → s'.heap.get? b = some o ∧ H' b = none
  slot : ∀ b o, b ∈ L2.frs C.outer → s.heap.get? b = some o → ∃ sl, s'.heap.get? b = some { o with slots := sl }
  frf : ∀ b ∈ L2.frs C.outer, H' b = none
  bs : ∀ b o, C.base.get? b = some o → s'.heap.get? b = some o ∧ H' b = none
  same : Same H H'
  hok : L2.HOk C.prog C.w H' s'.heap
  sz : s.heap.objs.size ≤ s'.heap.objs.size
  gsz : s.gens.size ≤ s'.gens.size
  gold : ∀ (i : Nat) (x : GenState), i < C.gn → s.gens[i]? = some x → inert x = true → s'.gens[i]? = some x
  gnew : ∀ (i : Nat) (x : GenState), s'.gens[i]? = some x → s.gens[i]? = some x ∨ x.bare = true ∨ C.gn ≤ i
/-- its end -/
structure Fin (C : Gn) (H : L2.Hp) (s : Shared) (H' : L2.Hp) (s' : Shared) : Prop extends Stp C H s H' s' where
  fin : ∀ (i : Nat) (x : GenState), s'.gens[i]? = some x → C.gn ≤ i → x.bare = true
/-- what its consumer leaves as it is while it sleeps -/
structure Slp (C : Gn) (H : L2.Hp) (s : Shared) (H' : L2.Hp) (s' : Shared) : Prop where
  os : s'.os = s.os
  keepL : ∀ o, s.heap.get? C.L = some o → s'.heap.get? C.L = some o
  freeL : H' C.L = none
  keep : ∀ b o, C.n ≤ b → s.heap.get? b = some o → H b = none → (∀ v, o.data ≠ .cell v) → s'.heap.get? b = some o ∧ H' b = none
  bs : ∀ b o, C.base.get? b = some o → s'.heap.get? b = some o ∧ H' b = none
  funs : s'.heap.FunFrames C.base C.outer
  frf : ∀ b ∈ L2.frs C.outer, H' b = none
  same : Same H H'
  hok : L2.HOk C.prog C.w H' s'.heap
  sz : s.heap.objs.size ≤ s'.heap.objs.size
  gsz : s.gens.size ≤ s'.gens.size
  gold : ∀ (i : Nat) (x : GenState), C.gn ≤ i → s.gens[i]? = some x → inert x = true → s'.gens[i]? = some x
  gnew : ∀ (i : Nat) (x : GenState), s'.gens[i]? = some x → s.gens[i]? = some x ∨ x.bare = true

section
variable {C : Gn} {σ : L2.St} {H H' H'' : L2.Hp} {s s' s'' : Shared}
theorem Stp.trans (a : Stp C H s H' s') (b : Stp C H' s' H'' s'') : Stp C H s H'' s'' where
  os := b.os.trans a.os
  keep := fun x o h1 h2 h3 e n c => let ⟨e', n'⟩ := a.keep x o h1 h2 h3 e n c; b.keep x o h1 h2 h3 e' n' c
  slot := fun x o hx e => by
    obtain ⟨_, e1⟩ := a.slot x o hx e
    obtain ⟨sl, e2⟩ := b.slot x _ hx e1
    exact ⟨sl, e2⟩
  frf := b.frf
  bs := b.bs
  same := a.same.trans b.same
  hok := b.hok
  sz := Nat.le_trans a.sz b.sz
  gsz := Nat.le_trans a.gsz b.gsz
  gold := fun i x hi e h => b.gold i x hi (a.gold i x hi e h) h
  gnew := fun i x e => (b.gnew i x e).elim (fun q => a.gnew i x q) .inr
theorem Fin.after (a : Stp C H s H' s') (b : Fin C H' s' H'' s'') : Fin C H s H'' s'' := ⟨a.trans b.toStp, b.fin⟩
/-- a plain statement of its body -/
theorem Stp.of_kp {ex : List Addr} (I : BI C.toBC σ H' s') (hx : ∀ b ∈ ex, C.n ≤ b) (k : Kp C.toBC ex H s H' s') (hs : Same H H') : Stp C H s H' s' where
  os := k.os
  keep := fun b o h1 h2 h3 e n c => k.keep b o e n h2 h3 (fun z => by have := hx b z; omega) c
  slot := k.slot
  frf := I.frf
  bs := I.bs
  same := hs
  hok := I.hok
  sz := k.sz
  gsz := k.gens.sz
  gold := fun i x _ e h => k.gens.old i x e h
  gnew := fun i x e => (k.gens.new i x e).elim .inl fun q => .inr (.inl q)
theorem slots_ns {h h' : Heap} {L : Addr} {m : Str → Option Value} (hn : h.Ns L m) (k : ∀ o, h.get? L = some o → ∃ sl, h'.get? L = some { o with slots := sl }) : h'.Ns L m := by
  obtain ⟨o, es, ep, ho, r⟩ := hn
  obtain ⟨sl, e⟩ := k o ho
  exact ⟨_, es, ep, e, r⟩
theorem BI.moved {C : BC} (ok : C.Ok) (I : BI C σ H s) (kL : ∀ o, s.heap.get? C.L = some o → ∃ sl, s'.heap.get? C.L = some { o with slots := sl }) (bs : ∀ b o, C.base.get? b = some o → s'.heap.get? b = some o ∧ H' b = none)
    (funs : s'.heap.FunFrames C.base C.outer) (frf : ∀ b ∈ L2.frs C.outer, H' b = none) (free : H' C.L = none) (hok : L2.HOk C.prog C.w H' s'.heap) : BI C σ H' s' := by
  refine ⟨bs, funs, frf, ?_, free, hok, I.len⟩
  obtain ⟨m, hn, hl⟩ := I.loc
  refine ⟨m, slots_ns hn kL, fun i x v e1 e2 e3 => ?_⟩
  obtain ⟨u, r, l⟩ := hl i x v e1 e2 e3
  refine ⟨u, r, ?_⟩
  rcases l with l | ⟨_, c, e, _⟩
  · exact .inl l
  · rw [ok.flat x] at e; cases e
/-- the body's knowledge, woken -/
theorem BI.slp (ok : C.toBC.Ok) (I : BI C.toBC σ H s) (z : Slp C H s H' s') : BI C.toBC σ H' s' :=
  I.moved ok (fun o e => ⟨o.slots, z.keepL o e⟩) z.bs z.funs z.frf z.freeL z.hok
theorem slot_funs {h h' base : Heap} : ∀ {l : List Env}, (∀ b o, b ∈ L2.frs l → h.get? b = some o → ∃ sl, h'.get? b = some { o with slots := sl }) → h.FunFrames base l → h'.FunFrames base l
  | [], _, _ => trivial
  | env :: r, hl, hf => by
    obtain ⟨hk, ⟨L, o, e1, e2, e3, e4⟩, hr⟩ := hf
    have hL : L ∈ L2.frs (env :: r) := by unfold L2.frs; rw [List.filterMap_cons, e1]; exact List.mem_cons_self
    obtain ⟨sl, e⟩ := hl L o hL e3
    exact ⟨hk, ⟨L, _, e1, e2, e, e4⟩, slot_funs (fun b o hb => hl b o (by unfold L2.frs; rw [List.filterMap_cons, e1]; exact List.mem_cons_of_mem _ hb)) hr⟩
end

structure Gn.Ok (C : Gn) : Prop extends BC.Ok C.toBC where
  Ln : C.L < C.n
  ggn : C.g < C.gn
/-- a child of the body C: called and woken by it -/
structure Child (C : Gn) (D : Gn) (a : Addr) : Prop where
  ok : D.Ok
  outer : D.outer = C.env :: C.outer
  prog : D.prog = C.prog
  w : D.w = C.w
  base : D.base = C.base
  cL : C.n ≤ D.L
  cn : C.n ≤ D.n
  cg : C.gn ≤ D.g
  ca : C.n ≤ a
  an : a < D.n
  aL : a ≠ D.L
theorem hok_at {P : Program} {w : World} {H : L2.Hp} {h h' : Heap} {a : Addr} (x : L2.HOk P w H h) (n : H a = none) (k : ∀ b o, b ≠ a → h.get? b = some o → h'.get? b = some o) : L2.HOk P w H h' := fun b u e =>
  (x b u e).stay (fun c v hc q => k c v (by
    rintro rfl
    rcases hc with rfl | hc
    · rw [n] at e; cases e
    · rw [n] at hc; cases hc) q) (fun _ q => q) fun _ _ q => q
section
variable {C D : Gn} {a : Addr} {σ : L2.St} {H H' H'' : L2.Hp} {s s' s'' : Shared}
theorem Gn.Ok.baseLt (ok : C.Ok) {b : Addr} {o : Obj} (e : C.base.get? b = some o) : b < C.n := Nat.lt_of_lt_of_le (Heap.lt_size e) (Nat.le_trans ok.bsz (Nat.le_of_lt ok.Ln))
theorem Gn.Ok.frLt (ok : C.Ok) {b : Addr} (e : b ∈ L2.frs C.outer) : b < C.n := Nat.lt_trans (ok.frlt b e) ok.Ln
theorem frs_child (c : Child C D a) : L2.frs D.outer = C.L :: L2.frs C.outer := by
  rw [c.outer]; rfl
theorem Child.aout (c : Child C D a) (ok : C.Ok) : a ∉ L2.frs D.outer := by
  rw [frs_child c]
  intro hm
  have h1 := c.ca
  rcases List.mem_cons.mp hm with q | q
  · have := ok.Ln; rw [q] at h1; exact absurd (Nat.lt_of_lt_of_le this h1) (Nat.lt_irrefl _)
  · exact absurd (Nat.lt_of_lt_of_le (ok.frLt q) h1) (Nat.lt_irrefl _)
theorem Child.stp (c : Child C D a) (z : Stp D H s H' s') : Stp C H s H' s' where
  os := z.os
  keep := fun b o h1 h2 h3 e n q => z.keep b o (Nat.lt_of_lt_of_le h1 c.cn) (Nat.ne_of_lt (Nat.lt_of_lt_of_le h1 c.cL)) (by rw [frs_child c]; exact fun hm => (List.mem_cons.mp hm).elim h2 h3) e n q
  slot := fun b o hb e => z.slot b o (by rw [frs_child c]; exact List.mem_cons_of_mem _ hb) e
  frf := fun b hb => z.frf b (by rw [frs_child c]; exact List.mem_cons_of_mem _ hb)
  bs := fun b o e => z.bs b o (by rw [c.base]; exact e)
  same := z.same
  hok := by have := z.hok; rw [c.prog, c.w] at this; exact this
  sz := z.sz
  gsz := z.gsz
  gold := fun i x hi e h => z.gold i x (by have := c.cg; have := c.ok.ggn; omega) e h
  gnew := fun i x e => (z.gnew i x e).elim .inl fun q => .inr (q.elim .inl fun r => .inr (by have := c.cg; have := c.ok.ggn; omega))
theorem Child.bi (c : Child C D a) (ok : C.Ok) (I : BI C.toBC σ H s) (z : Stp D H s H' s') : BI C.toBC σ H' s' := by
  have hL : C.L ∈ L2.frs D.outer := by rw [frs_child c]; exact List.mem_cons_self
  refine I.moved ok.toOk (fun o e => z.slot _ o hL e) (fun b o e => z.bs b o (by rw [c.base]; exact e)) ?_ (fun b hb => z.frf b (by rw [frs_child c]; exact List.mem_cons_of_mem _ hb)) (z.frf _ hL)
    (by have := z.hok; rw [c.prog, c.w] at this; exact this)
  exact slot_funs (fun b o hb e => z.slot b o (by rw [frs_child c]; exact List.mem_cons_of_mem _ hb) e) I.funs
/-- a step that touches nothing old -/
theorem Stp.raw (ok : C.Ok) (I : BI C.toBC σ H s) (os : s'.os = s.os) (k : ∀ b o, b < C.n → s.heap.get? b = some o → s'.heap.get? b = some o) (hok : L2.HOk C.prog C.w H s'.heap) (sz : s.heap.objs.size ≤ s'.heap.objs.size)
    (gsz : s.gens.size ≤ s'.gens.size) (gk : ∀ i : Nat, i < C.gn → s'.gens[i]? = s.gens[i]?) : Stp C H s H s' where
  os := os
  keep := fun b o h1 _ _ e n _ => ⟨k b o h1 e, n⟩
  slot := fun b o hb e => ⟨o.slots, k b o (ok.frLt hb) e⟩
  frf := I.frf
  bs := fun b o e => ⟨k b o (ok.baseLt e) (I.bs b o e).1, (I.bs b o e).2⟩
  same := Same.refl _
  hok := hok
  sz := sz
  gsz := gsz
  gold := fun i x hi e _ => by rw [gk i hi]; exact e
  gnew := fun i x e => by
    by_cases hi : i < C.gn
    · rw [gk i hi] at e; exact .inl e
    · exact .inr (.inr (by omega))
theorem BI.raw (ok : C.Ok) (I : BI C.toBC σ H s) (k : ∀ b o, b < C.n → s.heap.get? b = some o → s'.heap.get? b = some o) (hok : L2.HOk C.prog C.w H s'.heap) : BI C.toBC σ H s' :=
  I.moved ok.toOk (fun o e => ⟨o.slots, k _ o ok.Ln e⟩) (fun b o e => ⟨k b o (ok.baseLt e) (I.bs b o e).1, (I.bs b o e).2⟩) (slot_funs (fun b o hb e => ⟨o.slots, k b o (ok.frLt hb) e⟩) I.funs) I.frf I.free hok
theorem funs_kept {h h' base : Heap} {l : List Env} (hf : h.FunFrames base l) (k : ∀ b o, b ∈ L2.frs l → h.get? b = some o → h'.get? b = some o) : h'.FunFrames base l :=
  slot_funs (fun b o hb e => ⟨o.slots, k b o hb e⟩) hf
/-- the child's sleep, where the parent slept over it -/
theorem Child.slp {τ : L2.St} {y : GenState} {f f' : Obj → Obj} (c : Child C D a) (ok : C.Ok) (J : BI D.toBC τ H s) (I : BI C.toBC σ H' s') (hna : H' a = none)
    (z : Slp C H { s.setGen D.g y with heap := s.heap.update a f } H' s') : Slp D H s H' (Shared.setGen { s' with heap := s'.heap.update a f' } D.g .running) := by
  have up : ∀ b o, b ≠ a → s.heap.get? b = some o → (s.heap.update a f).get? b = some o := fun b o hb e => (Heap.get?_update_other _ _ (Ne.symm hb)).trans e
  have dn : ∀ b o, b ≠ a → s'.heap.get? b = some o → (s'.heap.update a f').get? b = some o := fun b o hb e => (Heap.get?_update_other _ _ (Ne.symm hb)).trans e
  have baseNe : ∀ b o, C.base.get? b = some o → b ≠ a := fun b o e q => by
    have h1 := ok.baseLt e
    rw [q] at h1
    exact absurd (Nat.lt_of_lt_of_le h1 c.ca) (Nat.lt_irrefl _)
  obtain ⟨mD, hnD, _⟩ := J.loc
  obtain ⟨oD, esD, epD, hoD, hdD, rD⟩ := hnD
  have kD := z.keep C.L
  have keepD : ∀ o, s.heap.get? D.L = some o → s'.heap.get? D.L = some o ∧ H' D.L = none := fun o e => by
    rw [hoD] at e; cases e
    exact z.keep D.L oD c.cL (up _ _ (Ne.symm c.aL) hoD) J.free fun v q => by rw [hdD] at q; cases q
  refine ⟨z.os, fun o e => dn _ _ (Ne.symm c.aL) (keepD o e).1, (keepD _ hoD).2, fun b o hb e n q => ?_, fun b o e => ?_, ?_, fun b hb => ?_, z.same, ?_, ?_, ?_, fun i x hi e h => ?_, fun i x e => ?_⟩
  · have hba : b ≠ a := fun q => by have := c.an; rw [q] at hb; exact absurd (Nat.lt_of_lt_of_le this hb) (Nat.lt_irrefl _)
    obtain ⟨e1, n1⟩ := z.keep b o (Nat.le_trans c.cn hb) (up b o hba e) n q
    exact ⟨dn b o hba e1, n1⟩
  · rw [c.base] at e
    exact ⟨dn b o (baseNe b o e) (z.bs b o e).1, (z.bs b o e).2⟩
  · obtain ⟨m, ⟨o, es, ep, ho, hd, r⟩, _⟩ := I.loc
    have F : s'.heap.FunFrames D.base D.outer := by
      rw [c.outer, c.base]
      exact ⟨by show C.scope.kind ≠ _; rw [ok.kind]; decide, ⟨C.L, o, rfl, Heap.get?_none_of_le ok.bsz, ho, fun vs q => by rw [hd] at q; cases q⟩, I.funs⟩
    exact funs_kept F fun b o hb e => dn b o (fun q => c.aout ok (q ▸ hb)) e
  · rw [frs_child c] at hb
    rcases List.mem_cons.mp hb with q | q
    · rw [q]; exact z.freeL
    · exact z.frf b q
  · rw [c.prog, c.w]
    exact hok_at z.hok hna dn
  · have := z.sz
    show s.heap.objs.size ≤ (s'.heap.update a f').objs.size
    rw [Heap.size_update]
    have h2 : (s.heap.update a f).objs.size = s.heap.objs.size := Heap.size_update ..
    exact h2 ▸ this
  · have := z.gsz
    show s.gens.size ≤ (s'.gens.setIfInBounds D.g .running).size
    rw [Array.size_setIfInBounds]
    have h2 : (s.gens.setIfInBounds D.g y).size = s.gens.size := Array.size_setIfInBounds
    exact h2 ▸ this
  · have hig : D.g ≠ i := by have := c.ok.ggn; omega
    have e' : (s.gens.setIfInBounds D.g y)[i]? = some x := by rw [Array.getElem?_setIfInBounds_ne hig]; exact e
    have := z.gold i x (by have := c.cg; have := c.ok.ggn; omega) e' h
    show (s'.gens.setIfInBounds D.g .running)[i]? = some x
    rw [Array.getElem?_setIfInBounds_ne hig]; exact this
  · have e' : (s'.gens.setIfInBounds D.g .running)[i]? = some x := e
    by_cases hig : D.g = i
    · subst hig
      by_cases hlt : D.g < s'.gens.size
      · rw [Array.getElem?_setIfInBounds_self_of_lt hlt] at e'; cases e'; exact .inr rfl
      · rw [Array.getElem?_eq_none (by rw [Array.size_setIfInBounds]; omega)] at e'; cases e'
    · rw [Array.getElem?_setIfInBounds_ne hig] at e'
      refine (z.gnew i x e').imp (fun q => ?_) id
      have q' : (s.gens.setIfInBounds D.g y)[i]? = some x := q
      rw [Array.getElem?_setIfInBounds_ne hig] at q'
      exact q'
end
end Cf
end

section
set_option linter.all false
set_option maxRecDepth 100000
set_option maxHeartbeats 1000000
/-! What a generator will hand out; the delegator over such a one. -/
namespace Cf
open PySem PyProof.Rows
open Sem (wp)
section
variable {τ : Type}
/-- what it will hand out -/
def Fut (C : Gn) (Out : τ → Value → L2.Hp → Prop) : List τ → GenState → L2.Hp → Shared → Prop
  | [], x, H, s => ∀ H' s', Slp C H s H' s' → s'.gens[C.g]? = some .running →
      Wake C.M C.A C.g x (.send .none) s' (fun r s'' => r = .ok (.ret .none) ∧ ∃ H'', Fin C H' s' H'' s'') fun _ _ _ => False
  | t :: ts, x, H, s => ∀ H' s', Slp C H s H' s' → s'.gens[C.g]? = some .running →
      Wake C.M C.A C.g x (.send .none) s' (fun _ _ => False) fun v s'' y => ∃ H'', Stp C H' s' H'' s'' ∧ (∃ σ, BI C.toBC σ H'' s'') ∧ Out t v H'' ∧ inert y = true ∧ Fut C Out ts y H'' s''
def SB (C : Gn) (outs : List τ) (H : L2.Hp) (s : Shared) : PySem.Result → Shared → Prop := match outs with
  | [] => fun r s'' => r = .ok (.ret .none) ∧ ∃ H'', Fin C H s H'' s''
  | _ :: _ => fun _ _ => False
def SY (C : Gn) (Out : τ → Value → L2.Hp → Prop) (outs : List τ) (H : L2.Hp) (s : Shared) : Value → Shared → GenState → Prop := match outs with
  | [] => fun _ _ _ => False
  | t :: ts => fun v s'' y => ∃ H'', Stp C H s H'' s'' ∧ (∃ σ, BI C.toBC σ H'' s'') ∧ Out t v H'' ∧ inert y = true ∧ Fut C Out ts y H'' s''
theorem fut_iff {C : Gn} {Out : τ → Value → L2.Hp → Prop} {outs : List τ} {x : GenState} {H : L2.Hp} {s : Shared} :
    Fut C Out outs x H s ↔ ∀ H' s', Slp C H s H' s' → s'.gens[C.g]? = some .running → Wake C.M C.A C.g x (.send .none) s' (SB C outs H' s') (SY C Out outs H' s') := by
  cases outs with
  | nil => exact Iff.rfl
  | cons t ts => exact Iff.rfl
theorem sb_none {C : Gn} {outs : List τ} {H : L2.Hp} {s : Shared} {r : PySem.Result} {s' : Shared} (h : SB C outs H s r s') : r = .ok (.ret .none) := by
  cases outs with
  | nil => exact h.1
  | cons t ts => exact h.elim
theorem Child.M {C D : Gn} {a : Addr} (c : Child C D a) : D.M = C.M := by
  show model D.prog D.w = model C.prog C.w
  rw [c.prog, c.w]
theorem setGen_eq {s : Shared} {g : Nat} {x : GenState} {i : Nat} : (s.setGen g x).gens[i]? = if i = g then (if g < s.gens.size then some x else none) else s.gens[i]? := by
  show (s.gens.setIfInBounds g x)[i]? = _
  by_cases q : i = g
  · subst q
    rw [if_pos rfl]
    split
    · rename_i h; rw [Array.getElem?_setIfInBounds_self_of_lt h]
    · rename_i h; exact Array.getElem?_eq_none (by rw [Array.size_setIfInBounds]; omega)
  · rw [if_neg q, Array.getElem?_setIfInBounds_ne (Ne.symm q)]
theorem setGen_at {s : Shared} {g : Nat} {x y : GenState} (h : s.gens[g]? = some y) : (s.setGen g x).gens[g]? = some x := by
  rw [setGen_eq, if_pos rfl, if_pos (Array.getElem?_eq_some_iff.mp h).1]
theorem marked_data (z : Int) (o : Obj) : (marked z o).data = o.data := rfl
theorem marked_cls (z : Int) (o : Obj) : (marked z o).cls = o.cls := rfl
theorem gen_number {o : Obj} {g : Nat} {nm qn : Value} (hc : o.cls = .type "generator") (hd : o.data = .fields #[.int g 0, nm, qn]) : o.genNumber? = some g := by
  unfold Obj.genNumber?
  rw [hc, hd]
  show some ((g : Int).toNat) = some g
  rw [Int.toNat_natCast]
theorem slotv_le {o : Obj} (h : ∀ n t, (o.slots[0]? : Option (Option Value)) = some (some (.int n t)) → n ≤ 0) : slotv o ≤ 0 := by
  unfold slotv
  split
  · rename_i n t e
    exact h _ _ e
  · exact Int.le_refl _
theorem yf_all {C D : Gn} {a : Addr} (c : Child C D a) (ok : C.Ok) {fs : List Frame} {Out : τ → Value → L2.Hp → Prop} {σ : L2.St} {outs : List τ} {Jv : L2.Hp → Shared → Prop}
    (hJ1 : ∀ H s H' s', Jv H s → Stp D H s H' s' → Jv H' s') (hJ2 : ∀ H s s', Jv H s → (∀ b o, b ≠ a → s.heap.get? b = some o → s'.heap.get? b = some o) → s.gens.size ≤ s'.gens.size → Jv H s') (hJ3 : ∀ H s H' s', Jv H s → Slp C H s H' s' → Jv H' s')
    (hfs : splitAtGen fs = none) (hfg : fs.any Frame.guarded = false) (hn : NoH fs = true)
    (hl : Le (C.A.over (yfc a) fs).in1 D.A) (hh : (C.A.over (yfc a) fs).handled = none) (hroom : (C.A.over (yfc a) fs).depth < recursionLimit)
    (after : ∀ Hw sw H s, BI C.toBC σ H s → Stp C Hw sw H s → Jv H s → (∀ (i : Nat) (x : GenState), C.gn ≤ i → s.gens[i]? = some x → x.bare = true) →
      Conf C.M C.A (GRest C.M C.g (SB C outs Hw sw) (SY C Out outs Hw sw)) (yfc a) (.pure (.done (.ret .none))) fs s) :
    ∀ (ts : List τ) (x : GenState) (Hw : L2.Hp) (sw : Shared) (H : L2.Hp) (s : Shared), BI C.toBC σ H s → Stp C Hw sw H s → Jv H s → H a = none → GenAt s.heap a D.g → s.gens[D.g]? = some x →
      (∀ (i : Nat) (y : GenState), C.gn ≤ i → i < D.gn → i ≠ D.g → s.gens[i]? = some y → y.bare = true) →
      Wake C.M D.A D.g x (.send .none) (s.setGen D.g .running) (SB D ts H (s.setGen D.g .running)) (SY D Out ts H (s.setGen D.g .running)) →
      Conf C.M C.A (GRest C.M C.g (SB C (ts ++ outs) Hw sw) (SY C Out (ts ++ outs) Hw sw)) (yfc a) (C.M.den (yfc a)) fs s := by
  have hnC : ∀ {o : Obj} {vs : Array Value}, o.data = .fields vs → ∀ v, o.data ≠ .cell v := fun hd v q => by rw [hd] at q; cases q
  have hlt : ∀ {s : Shared} {x : GenState}, s.gens[D.g]? = some x → D.g < s.gens.size := fun e => (Array.getElem?_eq_some_iff.mp e).1
  have stR : ∀ {Hw sw H s} {σ : L2.St}, BI C.toBC σ H s → Stp C Hw sw H s → Stp C Hw sw H (s.setGen D.g .running) := fun {Hw sw H s σ} I st =>
    st.trans (Stp.raw ok I rfl (fun _ _ _ e => e) I.hok (Nat.le_refl _) (by rw [GenW.setGen_size]; exact Nat.le_refl _) fun i hi => by rw [setGen_eq, if_neg (by have := c.cg; omega)])
  intro ts
  induction ts with
  | nil =>
    intro x Hw sw H s I st hj hna hg hx hob hw
    have hlim : s.heap.NoLimit := ok.mod.nolimit.keeps fun b o e => (I.bs b o e).1
    refine cf_yf (gc := D.g) hfs hfg hn hg hx hw hl hh hlim hroom (fun r s' hb => hb.1) (fun v s₁ y hy => hy.elim) fun s₁ h' hb hk => ?_
    obtain ⟨_, H1, fin⟩ := hb
    have IR : BI C.toBC σ H (s.setGen D.g .running) := I.raw ok (fun _ _ _ e => e) I.hok
    have I1 : BI C.toBC σ H1 s₁ := c.bi ok IR fin.toStp
    have hok' : L2.HOk C.prog C.w H1 h' := I1.hok.kept hk.1
    have I2 : BI C.toBC σ H1 { s₁.setGen D.g .finished with heap := h' } := I1.raw ok (fun b o _ e => hk.1 b o e) hok'
    have st1 : Stp C Hw sw H1 s₁ := (stR I st).trans (c.stp fin.toStp)
    have hgr : s₁.gens[D.g]? = some .running := fin.gold D.g .running c.ok.ggn (setGen_at hx) rfl
    have st2 : Stp C Hw sw H1 { s₁.setGen D.g .finished with heap := h' } := st1.trans (Stp.raw ok I1 rfl (fun b o _ e => hk.1 b o e) hok' hk.2 (by show _ ≤ (s₁.setGen D.g _).gens.size; rw [GenW.setGen_size]; exact Nat.le_refl _)
      fun i hi => by show (s₁.setGen D.g _).gens[i]? = _; rw [setGen_eq, if_neg (by have := c.cg; omega)])
    refine after Hw sw H1 _ I2 st2 (hJ2 _ s₁ _ (hJ1 _ _ _ _ (hJ2 _ s (s.setGen D.g .running) hj (fun _ _ _ e => e) (Nat.le_of_eq (GenW.setGen_size _ _ _).symm)) fin.toStp) (fun b o _ e => hk.1 b o e) (Nat.le_of_eq (GenW.setGen_size s₁ D.g _).symm)) fun i w hi e => ?_
    have e' : (s₁.setGen D.g .finished).gens[i]? = some w := e
    by_cases hig : i = D.g
    · subst hig
      rw [setGen_at hgr] at e'
      cases e'; rfl
    · rw [setGen_eq, if_neg hig] at e'
      by_cases hb : D.gn ≤ i
      · exact fin.fin i w e' hb
      · rcases fin.gnew i w e' with r | r | r
        · rw [setGen_eq, if_neg hig] at r
          exact hob i w hi (by omega) hig r
        · exact r
        · exact absurd r hb
  | cons t ts ih =>
    intro x Hw sw H s I st hj hna hg hx hob hw
    have hlim : s.heap.NoLimit := ok.mod.nolimit.keeps fun b o e => (I.bs b o e).1
    refine cf_yf (gc := D.g) hfs hfg hn hg hx hw hl hh hlim hroom (fun r s' hb => hb.elim) (fun v s₁ y hy => ?_) fun s₁ h' hb hk => hb.elim
    obtain ⟨H1, stc, ⟨ρ, J⟩, ho, hi, hf⟩ := hy
    obtain ⟨o, nm, qn, hoa, hc, hd, hsl⟩ := id hg
    obtain ⟨e1, n1⟩ := stc.keep a o c.an c.aL (c.aout ok) hoa hna (hnC hd)
    have IR : BI C.toBC σ H (s.setGen D.g .running) := I.raw ok (fun _ _ _ e => e) I.hok
    have I1 : BI C.toBC σ H1 s₁ := c.bi ok IR stc
    have st1 : Stp C Hw sw H1 s₁ := (stR I st).trans (c.stp stc)
    have hgr : s₁.gens[D.g]? = some .running := stc.gold D.g .running c.ok.ggn (setGen_at hx) rfl
    refine ⟨o, D.g, _, e1, hc, hd, ?_, fun k l p hwk => ?_⟩
    · exact gen_number hc hd
    · have up : ∀ b u, b ≠ a → s₁.heap.get? b = some u → (s₁.heap.update a (marked (slotv o + 1))).get? b = some u := fun b u hb e => (Heap.get?_update_other _ _ (Ne.symm hb)).trans e
      have ltNe : ∀ b, b < C.n → b ≠ a := fun b hb q => by
        rw [q] at hb; exact absurd (Nat.lt_of_lt_of_le hb c.ca) (Nat.lt_irrefl _)
      have hok2 : L2.HOk C.prog C.w H1 (s₁.heap.update a (marked (slotv o + 1))) := hok_at I1.hok n1 up
      have I2 : BI C.toBC σ H1 { s₁.setGen D.g y with heap := s₁.heap.update a (marked (slotv o + 1)) } := I1.raw ok (fun b u hb e => up b u (ltNe b hb) e) hok2
      have st2 : Stp C Hw sw H1 { s₁.setGen D.g y with heap := s₁.heap.update a (marked (slotv o + 1)) } := st1.trans (Stp.raw ok I1 rfl (fun b u hb e => up b u (ltNe b hb) e) hok2
        (by show s₁.heap.objs.size ≤ (s₁.heap.update a _).objs.size; rw [Heap.size_update]; exact Nat.le_refl _) (by show _ ≤ (s₁.setGen D.g y).gens.size; rw [GenW.setGen_size]; exact Nat.le_refl _)
        fun i hi => by show (s₁.setGen D.g y).gens[i]? = _; rw [setGen_eq, if_neg (by have := c.cg; omega)])
      refine ⟨H1, st2, ⟨σ, I2⟩, ho, rfl, fut_iff.mpr fun H' s' z hrun => ?_⟩
      have I3 : BI C.toBC σ H' s' := I2.slp ok.toOk z
      have mk : ({ s₁.setGen D.g y with heap := s₁.heap.update a (marked (slotv o + 1)) } : Shared).heap.get? a = some (marked (slotv o + 1) o) := Heap.get?_update_self _ e1 (Obj.isFreed_of_fields (vs := #[.int D.g 0, nm, qn]) (by rw [marked_data]; exact hd))
      obtain ⟨e3, n3⟩ := z.keep a _ c.ca mk n1 (hnC (o := marked (slotv o + 1) o) (by rw [marked_data]; exact hd))
      refine hwk C.A C.g _ _ s' _ e3 hc ?_
      rw [slotv_marked]
      have dn : ∀ b u, b ≠ a → s'.heap.get? b = some u → (s'.heap.update a (marked (slotv o + 1 - 1))).get? b = some u := fun b u hb e => (Heap.get?_update_other _ _ (Ne.symm hb)).trans e
      have hok4 : L2.HOk C.prog C.w H' (s'.heap.update a (marked (slotv o + 1 - 1))) := hok_at I3.hok n3 dn
      have I4 : BI C.toBC σ H' { s' with heap := s'.heap.update a (marked (slotv o + 1 - 1)) } := I3.raw ok (fun b u hb e => dn b u (ltNe b hb) e) hok4
      have mk4 : (s'.heap.update a (marked (slotv o + 1 - 1))).get? a = some (marked (slotv o + 1 - 1) (marked (slotv o + 1) o)) := Heap.get?_update_self _ e3 (Obj.isFreed_of_fields (vs := #[.int D.g 0, nm, qn]) (by rw [marked_data, marked_data]; exact hd))
      have gy : s'.gens[D.g]? = some y := z.gold D.g y c.cg (show (s₁.setGen D.g y).gens[D.g]? = some y from setGen_at hgr) hi
      have d4 : (marked (slotv o + 1 - 1) (marked (slotv o + 1) o)).data = .fields #[.int D.g 0, nm, qn] := by rw [marked_data, marked_data]; exact hd
      have c4 : (marked (slotv o + 1 - 1) (marked (slotv o + 1) o)).cls = .type "generator" := by rw [marked_cls, marked_cls]; exact hc
      have z4 : slotv (marked (slotv o + 1 - 1) (marked (slotv o + 1) o)) ≤ 0 := by
        rw [slotv_marked]; have := slotv_le hsl; omega
      have st4 : Stp C H' s' H' { s' with heap := s'.heap.update a (marked (slotv o + 1 - 1)) } := Stp.raw ok I3 rfl (fun b u hb e => dn b u (ltNe b hb) e) hok4 (by show _ ≤ (s'.heap.update a _).objs.size; rw [Heap.size_update]; exact Nat.le_refl _) (Nat.le_refl _) fun _ _ => rfl
      have q := fut_iff.mp hf H' _ (c.slp (f := marked (slotv o + 1)) (f' := marked (slotv o + 1 - 1)) ok J I3 n3 z) (setGen_at (s := { s' with heap := s'.heap.update a (marked (slotv o + 1 - 1)) }) gy)
      rw [c.M] at q
      have j2 : Jv H1 { s₁.setGen D.g y with heap := s₁.heap.update a (marked (slotv o + 1)) } := hJ2 _ s₁ _ (hJ1 _ _ _ _ (hJ2 _ s (s.setGen D.g .running) hj (fun _ _ _ e => e) (Nat.le_of_eq (GenW.setGen_size _ _ _).symm)) stc) up (Nat.le_of_eq (GenW.setGen_size s₁ D.g _).symm)
      refine ih y H' s' H' _ I4 st4 (hJ2 _ s' _ (hJ3 _ _ _ _ j2 z) dn (Nat.le_refl _)) n3 (GenAt.of mk4 c4 d4 z4) gy (fun i w h1 h2 h3 e => ?_) q
      rcases z.gnew i w e with e' | e'
      · have e'' : (s₁.setGen D.g y).gens[i]? = some w := e'
        rw [setGen_eq, if_neg h3] at e''
        rcases stc.gnew i w e'' with r | r | r
        · rw [setGen_eq, if_neg h3] at r
          exact hob i w h1 h2 h3 r
        · exact r
        · omega
      · exact e'
theorem Stp.self {C : Gn} {σ : L2.St} {H : L2.Hp} {s : Shared} (ok : C.Ok) (I : BI C.toBC σ H s) : Stp C H s H s :=
  Stp.raw ok I rfl (fun _ _ _ e => e) I.hok (Nat.le_refl _) (Nat.le_refl _) fun _ _ => rfl
/-- nothing has happened since -/
theorem Slp.self {C : Gn} {σ : L2.St} {H : L2.Hp} {s : Shared} (ok : C.Ok) (I : BI C.toBC σ H s) : Slp C H s H (s.setGen C.g .running) where
  os := rfl
  keepL := fun _ e => e
  freeL := I.free
  keep := fun _ _ _ e n _ => ⟨e, n⟩
  bs := I.bs
  funs := I.funs
  frf := I.frf
  same := Same.refl _
  hok := I.hok
  sz := Nat.le_refl _
  gsz := by rw [GenW.setGen_size]; exact Nat.le_refl _
  gold := fun i x hi e h => by
    rw [setGen_eq]
    split
    · rename_i q; have := ok.ggn; omega
    · exact e
  gnew := fun i x e => by
    rw [setGen_eq] at e
    split at e
    · split at e
      · cases e; exact .inr rfl
      · cases e
    · exact .inl e
end
end Cf
end

section
set_option linter.all false
set_option maxRecDepth 100000
set_option maxHeartbeats 1000000
/-! The call of a generator def, from a body. -/
namespace Cf
open PySem PyProof.Rows
open Sem (wp)

theorem wpAny_sizes {α : Type} {M : Model} {A : Around} {s : Shared} {t : Sem α} {Q : α → Shared → Prop} {E : Value → Shared → Prop}
    (h : wpAny M A t (fun a s' => s.heap.objs.size ≤ s'.heap.objs.size → s.gens.size ≤ s'.gens.size → Q a s') E s) : wpAny M A t Q E s :=
  fun Γ p hΓ => Sem.wp_mono M Γ t (fun a p' s' q => q.2.2 q.1 q.2.1) (fun e p' s' q => q.2.2) _ _ (wp_hsz M Γ _ t _ _ p s (Nat.le_refl _) (GenW.wp_gsz M Γ _ t _ _ p s (Nat.le_refl _) (h Γ p hΓ)))

/-- a def's parts -/
structure Df where
  name : Str
  qual : Str
  params : Arguments
  body : List Stmt
  scope : Scope
  dV : Value
  kV : Value
  doc : Value
  pm : Value
  cd : Value
  ct : Value
  oc : Value
  an : Option Addr
  od : Option Addr
  osl : Array (Option Value)
abbrev Df.fn (d : Df) : FuncData := PySem.W.fnOf d.name d.qual d.params d.body d.scope d.dV d.kV d.doc d.pm d.an d.cd d.ct
/-- a body's constants, where its frame lies at L -/
abbrev Df.bc (d : Df) (prog : Program) (w : World) (K : PySem.W.Frag) (mg : Str → Option Value) (base : Heap) (N : List Str) (f : Addr) (A : Around) (outer : List Env) (L : Addr) : BC :=
  ⟨prog, w, K, mg, base, A, N, d.qual, d.scope, f, d.cd, outer, L⟩
/-- a generator, made and not begun -/
structure Made (d : Df) (prog : Program) (w : World) (K : PySem.W.Frag) (mg : Str → Option Value) (base : Heap) (N : List Str) (f : Addr) (outer : List Env) (vs : List L2.V) (H : L2.Hp) (s : Shared) (u : Value) (s' : Shared) (a L g : Nat) : Prop where
  val : u = .ref a
  eL : L = s.heap.objs.size
  La : L < a
  asz : a < s'.heap.objs.size
  eg : g = s.gens.size
  gen : s'.heap.IsGen a g
  gens : s'.gens = s.gens.push (.fresh (.func d.body (envOfC d.qual d.scope L f d.cd)))
  os : s'.os = s.os
  kept : ∀ b o, s.heap.get? b = some o → s'.heap.get? b = some o
  free : H a = none
  bi : ∀ A, BI (d.bc prog w K mg base N f A outer L) (L2.start N vs) H s'

theorem made_of {P : Program} {w : World} {K : PySem.W.Frag} {mg : Str → Option Value} {base : Heap} {N ps : List Str} {d : Df} {f : Addr} {A : Around} {outer : List Env} {s : Shared} {H : L2.Hp} {args : Args} {us : List Value} {vs : List L2.V} {k : Nat}
    (lk : K.lookup f = some ⟨d.oc, d.od, .func d.fn, d.osl⟩) (hcd : PySem.W.codeIn K d.cd d.qual = true) (S : L2.GScope N ps d.scope) (hr : L2.Room k A) (e0 : L2.Env0 P w K mg base A outer s H) (hb : BindsTo s d.fn args (ps.zip us)) (r : L2.Vals vs us)
    (hl : vs.length = ps.length) : codeAny (model P w) A (.call (.ref f) args) (fun r s' => ∃ u a L g, r = .ok (.ret u) ∧ Made d P w K mg base N f outer vs H s u s' a L g) s := by
  have KX : K.In s.heap := e0.mod.kin.keeps fun b o e => (e0.bs b o e).1
  have lim : s.heap.NoLimit := e0.mod.nolimit.keeps fun b o e => (e0.bs b o e).1
  have hkind : ∀ y ∈ ps.zip us, d.scope.names.lookup y.1 = some .local ∨ (d.scope.names.lookup y.1 = some .cell ∧ ((cellsFrom (s.heap.objs.size + 1) d.scope.names []).lookup y.1).isSome = true) := fun ⟨n, v⟩ hy => by
    rcases S.par n (List.of_mem_zip hy).1 with q | q
    · exact .inl q
    · exact .inr ⟨q, PySem.W.cellsFrom_some _ _ _ (.inl q)⟩
  refine codeAny_call_generator hr.depth (KX _ _ lk) rfl S.co S.gen rfl (PySem.W.codeRec_of KX hcd) (hb _ _ _ _ ?_)
  refine wpAny_newFunctionEnv_cells S.kind hkind fun env he s1 x => ?_
  subst he
  have lim1 : s1.heap.NoLimit := lim.keeps x.toInCall.keep
  refine ⟨lim1, ?_⟩
  obtain ⟨h1, tk, es1, hk1⟩ := x.done
  have os1 : s1.os = s.os := by rw [es1]
  have gen1 : s1.gens = s.gens := by rw [es1]
  have lt1 : s.heap.objs.size < s1.heap.objs.size := x.toInCall.ns.lt
  have kp1 : ∀ b o, s.heap.get? b = some o → s1.heap.get? b = some o := x.toInCall.keep
  have main : ∀ (go : Obj) (nm qn : Value) (tk2 : Nat), go.cls = .type "generator" → go.data = .fields #[.int s1.gens.size 0, nm, qn] → go.slots = #[] → (∀ h : Heap, (h.push go).get? h.objs.size = some go) →
      Made d P w K mg base N f outer vs H s (.ref s1.heap.objs.size) { s1 with gens := s1.gens.push (.fresh (.func d.body (envOfC d.qual d.scope s.heap.objs.size f d.cd))), toks := tk2, heap := s1.heap.push go } s1.heap.objs.size s.heap.objs.size s.gens.size := by
    intro go nm qn tk2 hgc hgd0 hgs hgp
    have kp2 : ∀ b o, s1.heap.get? b = some o → (s1.heap.push go).get? b = some o := fun b o e => Heap.get?_push_of_some _ e
    refine ⟨rfl, rfl, lt1, ?_, rfl, ⟨go, nm, qn, hgp _, hgc, by rw [hgd0, gen1], hgs⟩, by rw [gen1], os1, fun b o e => kp2 b o (kp1 b o e), ?_, fun A' => ?_⟩
    · show _ < (s1.heap.push go).objs.size
      rw [Heap.size_push]; exact Nat.lt_succ_self _
    · exact e0.hok.fresh (Nat.le_of_lt lt1)
    · have I1 : L2.Inv (L2.gcxOf P w K mg base N d.qual d.scope f d.cd A outer s H (fun _ _ _ => False) []) [] (L2.start N vs) H s1 := L2.inv_startG S hr.hd e0 hl r x
      refine ⟨fun b o e => ⟨kp2 b o (I1.bs b o e).1, (I1.bs b o e).2⟩, funs_kept I1.funs fun b o _ e => kp2 b o e, fun b hb => ?_, ?_, I1.free, I1.hok.kept kp2, I1.len⟩
      · exact e0.frf b hb
      · obtain ⟨m, hn, hl'⟩ := I1.loc
        refine ⟨m, slots_ns hn fun o e => ⟨o.slots, kp2 _ o e⟩, fun i y v e1 e2 e3 => ?_⟩
        obtain ⟨u, ru, l⟩ := hl' i y v e1 e2 e3
        refine ⟨u, ru, ?_⟩
        rcases l with l | ⟨k1, c, e, z⟩
        · exact .inl l
        · obtain ⟨oc, hoc, hcd2⟩ := z
          exact .inr ⟨k1, c, e, oc, kp2 _ oc hoc, hcd2⟩
  exact ⟨_, _, _, _, rfl, main _ _ _ _ rfl rfl rfl fun h => Heap.get?_push_size _ rfl⟩

section
variable {C : BC} {σ : L2.St} {H : L2.Hp} {s : Shared} {d : Df} {f : Addr} {ps N : List Str} {k : Nat} {x : Str} {p pos : Pos} {e : Expr} {es : List Expr} {t : L2.TA} {Qa : List L2.V → L2.Hp → Prop}
/-- f(e, ..) in a body, f a generator def -/
theorem eval_made (ok : C.Ok) (I : BI C σ H s) (lk : C.K.lookup f = some ⟨d.oc, d.od, .func d.fn, d.osl⟩) (hcd : PySem.W.codeIn C.K d.cd d.qual = true) (S : L2.GScope N ps d.scope)
    (hr : L2.Room k (C.A.deeper C.env)) (hg : L2.Gl (C.cx H s) x) (hm : C.mg x = some (.ref f)) (hk : PySem.W.keepIn C.K (.ref f) = true) (hb : L2.Binds C.K d.fn ps []) (ha : L2.PA (C.cx H s) (e :: es) t)
    (ht : t σ H fun vs H1 => vs.length = ps.length ∧ Qa vs H1)
    (hdb : (x == ("__debug__" : Str)) = false := by decide) (he : starEach (e :: es) C.env = (false, eval e C.env) :: starEach es C.env := by rfl) (hpl : (backTo pos (starEach es C.env)).any (·.1) = false := by rfl) :
    wpAny C.M (C.A.deeper C.env) (eval (.Call (.Name x p) (e :: es) [] pos) C.env) (fun u s' => ∃ vs H' a L g, u = .ref a ∧ BI C σ H' s' ∧ Kp C [] H s H' s' ∧ Qa vs H' ∧ s.heap.objs.size ≤ L ∧ L < a ∧ a < s'.heap.objs.size ∧ s.gens.size ≤ g ∧ s'.gens.size = g + 1 ∧
      s'.heap.IsGen a g ∧ H' a = none ∧ s'.gens[g]? = some (.fresh (.func d.body (envOfC d.qual d.scope L f d.cd))) ∧ ∀ A', BI (d.bc C.prog C.w C.K C.mg C.base N f A' (C.env :: C.outer) L) (L2.start N vs) H' s') NoX s := by
  refine wpAny_mono (run_plainG ok I [] (Post := fun u σ' H' s₁ => σ' = σ ∧ ∃ vs a L g, u = .ref a ∧ Qa vs H' ∧ s.heap.objs.size ≤ L ∧ L < a ∧ a < s₁.heap.objs.size ∧ s.gens.size ≤ g ∧ s₁.gens.size = g + 1 ∧
      s₁.heap.IsGen a g ∧ H' a = none ∧ s₁.gens[g]? = some (.fresh (.func d.body (envOfC d.qual d.scope L f d.cd))) ∧ ∀ A', BI (d.bc C.prog C.w C.K C.mg C.base N f A' (C.env :: C.outer) L) (L2.start N vs) H' s₁) fun pins _ J => ?_) (fun u s' hq => ?_) fun _ _ z => z
  · refine wpAny_Call_Name_kw (L2.ld_glob J hg hm ?_ hdb)
    refine PySem.W.callWith_K (h₀ := C.base) J.ok.mod.kin hk (wpAny_sizes (L2.thn (ha.run pos pins _ σ H _ J ht) fun us s1 ⟨vs, H1, I1, r, hlen, q⟩ hz hgz => ⟨I1.kIn, ?_⟩)) he hpl
    have hl2 : (us ++ []).length = ps.length := by rw [List.append_nil, ← r.length]; exact hlen
    have hb' := hb s1 us I1.kIn hl2
    rw [List.append_nil] at hb'
    refine wpAny_call (codeAny_mono (made_of (k := k) lk hcd S hr I1.env0 hb' r hlen) fun rr s' hq => ?_)
    obtain ⟨u, a, L, g, rfl, m⟩ := hq
    have J' : L2.Inv (C.cx H s) pins σ H1 s' := I1.call' (ch := []) m.os (L2.Un.kept m.kept) (I1.hok.kept m.kept) (by
      rw [m.gens]; exact AllBare.push I1.bare rfl) fun b z => by simp at z
    refine ⟨σ, H1, J', rfl, vs, a, L, g, m.val, q, ?_, m.La, m.asz, ?_, ?_, m.gen, m.free, ?_, m.bi⟩
    · rw [m.eL]; exact hz
    · rw [m.eg]
      have : (hush s.gens).size = s.gens.size := by unfold hush; rw [Array.size_map]
      rw [← this]; exact hgz
    · rw [m.gens, Array.size_push, m.eg]
    · rw [m.gens, m.eg]; exact Array.getElem?_push_size ..
  · obtain ⟨σ', H', G, I', ⟨rfl, vs, a, L, g, e1, q, z1, z2, z3, z4, z5, z6, z7, z8, z9⟩, fk, kp⟩ := hq
    refine ⟨vs, H', a, L, g, e1, I', kp, q, z1, z2, z3, z4, ?_, z6, z7, fk.fresh _ _ z8, fun A' => ?_⟩
    · rw [← fk.size]; exact z5
    · obtain ⟨b1, b2, b3, b4, b5, b6, b7⟩ := z9 A'
      exact ⟨b1, b2, b3, b4, b5, b6, b7⟩
end
end Cf
end

section
set_option linter.all false
set_option maxRecDepth 100000
set_option maxHeartbeats 1000000
/-! A loop's turn by one plain fact. -/
namespace Cf
open PySem PyProof.Rows
open Sem (wp)

/-- a turn's plain part: the next item, stored -/
def nextM (tg : Expr) (it : Value) (env : Env) : Option Value → Sem Bool
  | none => pure false
  | some v => letOwnedTupleGo tg it v >>= fun _ => assign tg env v >>= fun _ => pure true
section
variable {M : Model} {A : Around} {R : Rest} {c : Code} {fs : List Frame} {s : Shared}
theorem cf_two {α β : Type} {m : Sem α} {f : α → Sem β} {K : β → Sem PySem.Fin} {H₁ H₂ : Value → Sem PySem.Fin} {gd₁ gd₂ : Bool → Bool} {lv₁ lv₂ : List Value → List Value}
    (h : wpAny M (A.over c fs) (m >>= f) (fun b s' => Conf M A R c (K b) fs s') NoX s) : Conf M A R c (m.wrap (fun a => (f a).wrap K H₁ gd₁ lv₁) H₂ gd₂ lv₂) fs s := by
  intro base P p hu hr
  have h0 := h _ p (Under.over hu c fs)
  rw [Sem.wp_bind'] at h0
  obtain ⟨s', p', t', hc, z⟩ := go_wrap (M := M) (Ctx.fits_of c (fs ++ base)) (fun a => (f a).wrap K H₁ gd₁ lv₁) H₂ gd₂ lv₂ m _ _ p s h0
  refine Ev.of_go (go_of_comes hc) ?_
  rcases z with ⟨a, rfl, q⟩ | ⟨x, rfl, q⟩
  · obtain ⟨s'', p'', t'', hc', z'⟩ := go_wrap (M := M) (Ctx.fits_of c (fs ++ base)) K H₁ gd₁ lv₁ (f a) _ _ p' s' q
    refine Ev.of_go (go_of_comes hc') ?_
    rcases z' with ⟨b, rfl, q'⟩ | ⟨x, rfl, q'⟩
    · exact q' base P p'' hu hr
    · exact q'.elim
  · exact q.elim
end
section
variable {prog : Program} {w : World} {A : Around} {R : Rest} {fs : List Frame} {s : Shared} {env : Env}
theorem cf_turn2 {tg : Expr} {it : Value} {body : List Stmt}
    (h : ∀ H, wpAny (model prog w) (A.over (.forLoop tg it body [] env) fs) (pyNext it >>= nextM tg it env) (fun b s₁ =>
      Conf (model prog w) A R (.forLoop tg it body [] env) (if b = true then (execs body env).wrap (turnK tg it body env) H id id else .pure (.again (.block [] env))) fs s₁) NoX s) :
    Conf (model prog w) A R (.forLoop tg it body [] env) ((model prog w).den (.forLoop tg it body [] env)) fs s := by
  refine cf_turnC fun H₁ H₂ => ?_
  have q := cf_two (H₁ := H₁) (H₂ := H₂) (gd₁ := id) (lv₁ := id) (gd₂ := id) (lv₂ := id) (h H₁)
  refine Eq.mp (congrArg (fun K => Conf (model prog w) A R (.forLoop tg it body [] env) ((pyNext it).wrap K H₂ id id) fs s) (funext fun r => ?_)) q
  cases r with
  | none => rfl
  | some v =>
    unfold nextM
    simp only [wbind_eq]
    rfl
end
end Cf
end

section
set_option linter.all false
set_option maxRecDepth 100000
set_option maxHeartbeats 1000000
/-! The statement «yield from g», g a generator just made. -/
namespace Cf
open PySem PyProof.Rows
open Sem (wp)
section
variable {prog : Program} {w : World} {A : Around} {R : Rest} {c : Code} {fs : List Frame} {s : Shared} {env : Env} {H : Value → Sem PySem.Fin} {gd : Bool → Bool} {lv : List Value → List Value}
theorem cf_YieldFrom {e : Expr} {yp pos : Pos} {K : Flow → Sem PySem.Fin} (hi : interactive env = false)
    (h : wpAny (model prog w) (A.over c fs) (eval e env) (fun v s₁ => ∃ a g, v = .ref a ∧ s₁.heap.IsGen a g ∧
      ∀ kk lv' p, (kk (.ok (.ret .none)) = K .next) → Conf (model prog w) A R (yfc a) ((model prog w).den (yfc a)) (.ret kk none (gd false) lv' c p [] :: fs) s₁) NoX s) :
    Conf (model prog w) A R c ((exec (.Expr (.YieldFrom e yp) pos) env).wrap K H gd lv) fs s := by
  rw [exec_Expr env _ pos hi rfl]
  refine cf_at (p' := pos) ?_
  show Conf (model prog w) A R c (((eval e env >>= fun v => (standAt yp >>= fun _ => yieldFrom env v)) >>= fun x => dropValue (.YieldFrom e yp) pos x).wrap K H gd lv) fs s
  refine cf_wbindC (cf_wbindN (wpAny_mono h (fun v s₁ q => ?_) fun _ _ z => z))
  obtain ⟨a, g, rfl, hg, q⟩ := q
  refine cf_at (p' := yp) ?_
  show Conf (model prog w) A R c ((yieldFrom env (.ref a)).wrap (fun x => (dropValue (.YieldFrom e yp) pos x).wrap K H gd lv) H gd lv) fs s₁
  unfold yieldFrom
  refine cf_wbindN (wpAny_typeOf hg.typeIs ?_)
  rw [if_neg (by decide)]
  refine cf_wbindN (wpAny_holding (wpAny_pyIter_gen hg ?_))
  exact cf_call fun p => q _ _ p rfl
end
end Cf
end

section
set_option linter.all false
set_option maxRecDepth 100000
set_option maxHeartbeats 1000000
/-! What a consumer's own steps leave of a sleeping child. -/
namespace Cf
open PySem PyProof.Rows
open Sem (wp)
structure Kee (C : Gn) (H : L2.Hp) (s : Shared) (H' : L2.Hp) (s' : Shared) : Prop where
  os : s'.os = s.os
  keep : ∀ b o, C.n ≤ b → s.heap.get? b = some o → H b = none → (∀ v, o.data ≠ .cell v) → s'.heap.get? b = some o ∧ H' b = none
  same : Same H H'
  sz : s.heap.objs.size ≤ s'.heap.objs.size
  gsz : s.gens.size ≤ s'.gens.size
  gold : ∀ (i : Nat) (x : GenState), C.gn ≤ i → s.gens[i]? = some x → inert x = true → s'.gens[i]? = some x
  gnew : ∀ (i : Nat) (x : GenState), s'.gens[i]? = some x → s.gens[i]? = some x ∨ x.bare = true
section
variable {C D : Gn} {a : Addr} {σ τ : L2.St} {H H' H'' : L2.Hp} {s s' s'' : Shared}
theorem Kee.self : Kee C H s H s := ⟨rfl, fun _ _ _ e n _ => ⟨e, n⟩, Same.refl _, Nat.le_refl _, Nat.le_refl _, fun _ _ _ e _ => e, fun _ _ e => .inl e⟩
theorem Kee.trans (x : Kee C H s H' s') (y : Kee C H' s' H'' s'') : Kee C H s H'' s'' where
  os := y.os.trans x.os
  keep := fun b o hb e n c => let ⟨e', n'⟩ := x.keep b o hb e n c; y.keep b o hb e' n' c
  same := x.same.trans y.same
  sz := Nat.le_trans x.sz y.sz
  gsz := Nat.le_trans x.gsz y.gsz
  gold := fun i z hi e h => y.gold i z hi (x.gold i z hi e h) h
  gnew := fun i z e => (y.gnew i z e).elim (fun q => x.gnew i z q) .inr
/-- a plain statement of the parent -/
theorem Kee.of_kp (ok : C.Ok) (k : Kp C.toBC [] H s H' s') (hs : Same H H') : Kee C H s H' s' where
  os := k.os
  keep := fun b o hC e n q =>
    k.keep b o e n (fun z => by have := Nat.lt_of_lt_of_le ok.Ln hC; rw [z] at this; exact absurd this (Nat.lt_irrefl _)) (fun hm => absurd (Nat.lt_of_lt_of_le (ok.frLt hm) hC) (Nat.lt_irrefl _)) (by simp) q
  same := hs
  sz := k.sz
  gsz := k.gens.sz
  gold := fun i x _ e h => k.gens.old i x e h
  gnew := fun i x e => k.gens.new i x e
/-- the parent's sleep -/
theorem Kee.of_slp (z : Slp C H s H' s') : Kee C H s H' s' where
  os := z.os
  keep := z.keep
  same := z.same
  sz := z.sz
  gsz := z.gsz
  gold := z.gold
  gnew := z.gnew
/-- the child's sleep, by what the parent's steps kept -/
theorem slp_of_kee {y : GenState} (c : Child C D a) (ok : C.Ok) (J : BI D.toBC τ H s) (I : BI C.toBC σ H' s') (z : Kee C H (s.setGen D.g y) H' s') : Slp D H s H' (s'.setGen D.g .running) := by
  obtain ⟨mD, hnD, _⟩ := J.loc
  obtain ⟨oD, esD, epD, hoD, hdD, rD⟩ := hnD
  have keepD : ∀ o, s.heap.get? D.L = some o → s'.heap.get? D.L = some o ∧ H' D.L = none := fun o e => by
    rw [hoD] at e; cases e
    exact z.keep D.L oD c.cL hoD J.free fun v q => by rw [hdD] at q; cases q
  refine ⟨z.os, fun o e => (keepD o e).1, (keepD _ hoD).2, fun b o hb e n q => z.keep b o (Nat.le_trans c.cn hb) e n q, fun b o e => ?_, ?_, fun b hb => ?_, z.same, ?_, z.sz, ?_, fun i x hi e h => ?_, fun i x e => ?_⟩
  · rw [c.base] at e; exact I.bs b o e
  · obtain ⟨m, ⟨o, es, ep, ho, hd, r⟩, _⟩ := I.loc
    rw [c.outer, c.base]
    exact ⟨by show C.scope.kind ≠ _; rw [ok.kind]; decide, ⟨C.L, o, rfl, Heap.get?_none_of_le ok.bsz, ho, fun vs q => by rw [hd] at q; cases q⟩, I.funs⟩
  · rw [frs_child c] at hb
    rcases List.mem_cons.mp hb with q | q
    · rw [q]; exact I.free
    · exact I.frf b q
  · rw [c.prog, c.w]; exact I.hok
  · have h1 := z.gsz
    rw [GenW.setGen_size] at h1 ⊢
    exact h1
  · have hig : i ≠ D.g := by have := c.ok.ggn; omega
    rw [setGen_eq, if_neg hig]
    exact z.gold i x (by have := c.ok.ggn; have := c.cg; omega) (by rw [setGen_eq, if_neg hig]; exact e) h
  · rw [setGen_eq] at e
    split at e
    · split at e
      · cases e; exact .inr rfl
      · cases e
    · rename_i hig
      refine (z.gnew i x e).imp (fun q => ?_) id
      rw [setGen_eq, if_neg hig] at q
      exact q
end
end Cf
end

section
set_option linter.all false
set_option maxRecDepth 100000
set_option maxHeartbeats 1000000
/-! list(g), g a generator. -/
namespace Cf
open PySem PyProof.Rows
open Sem (wp)
section
variable {prog : Program} {w : World} {A : Around} {s : Shared}
theorem den_of {id : String} {args : Args} {b : Builtin} (h : entryFor table id = some b) : (model prog w).den (.builtin id args) = b args := by
  show (match entryFor table id with | some b => b args | none => unsupported ((withoutEnding? id "#data").getD id)) = _
  rw [h]
theorem call_list_conf {a g : Nat} {Q : Shared → Prop} (hg : s.heap.IsGen a g) (hlt : a < s.heap.objs.size)
    (h : ∀ h1 c, (∀ b o, s.heap.get? b = some o → h1.get? b = some o) → h1.get? s.heap.objs.size = some (L2.lstObj #[] c) → h1.objs.size = s.heap.objs.size + 1 →
      Conf (model prog w) A.in1 (RRest (model prog w) fun r s' => r = .ok (.ret .none) ∧ Q s') (.builtin "list.extend.loop" ⟨[.ref s.heap.objs.size, .ref a, .none], []⟩)
        ((model prog w).den (.builtin "list.extend.loop" ⟨[.ref s.heap.objs.size, .ref a, .none], []⟩)) [] { s with heap := h1 }) :
    Cf.Call (model prog w) A (.call (.type "list") ⟨[.ref a], []⟩) (fun r s' => r = .ok (.ret (.ref s.heap.objs.size)) ∧ Q s') s := by
  unfold Cf.Call
  show Conf _ A _ _ (callAny (.type "list") ⟨[.ref a], []⟩) [] s
  refine cf_again (c' := .builtin "type.__call__" ⟨[.type "list", .ref a], []⟩) (Code.quiet_builtin _ (by decide +kernel)) ?_
  have hov : A.over (.builtin "type.__call__" ⟨[.type "list", .ref a], []⟩) [] = A.in1 := by
    rw [over_nil, Around.under_plain (weight_type_call_type "list" [.ref a] []) rfl]
  rw [den_of F.entry_type_call, ← wrap_id (Builtin.«type.__call__» _)]
  unfold Builtin.«type.__call__»
  dsimp only
  have h1 := F.called_list.notType
  have h2 := F.called_list.canCreate
  obtain ⟨mc, tl, hmro⟩ := F.called_list.mro
  rw [if_neg (by rw [h1]; exact Bool.false_ne_true)]
  rw [if_neg (by
    intro z
    exact Bool.false_ne_true (h2.symm.trans z))]
  refine cf_wbindN (wpAny_of_eq (F.typeCall_list_1 _) ?_)
  refine cf_wbindN (wpAny_of_eq hmro ?_)
  rw [if_neg (show ¬ (mc :: tl).isEmpty = true from Bool.false_ne_true)]
  refine cf_wbindN (wpAny_of_eq F.called_list.made ?_)
  refine cf_wbindN (wpAny_pure ?_)
  refine cf_wbindN (wpAny_holding (wpAny_call (code_list_new _ ?_)))
  have hS : (s.heap.push { cls := .type "list", data := .seq #[] }).get? s.heap.objs.size = some { cls := .type "list", data := .seq #[] } := Heap.get?_push_size _ rfl
  refine cf_wbindN (wpAny_isInstance (T := "list") (b := true) ⟨_, hS, rfl⟩ sub_list_self ?_)
  rw [if_neg (by decide)]
  refine cf_wbindC (cf_wholding fun lv' => ?_)
  unfold callSpecial?
  have slI := F.called_list.init
  refine cf_wbindN (wpAny_specialOf (T := "list") ⟨_, hS, rfl⟩ slI.lookup ?_)
  dsimp only
  refine cf_wholding fun lv'' => ?_
  rw [slI.bind]
  show Conf (model prog w) A _ (.builtin "type.__call__" ⟨[.type "list", .ref a], []⟩) ((PySem.call (.builtin "list.__init__") [.ref s.heap.objs.size, .ref a] >>= fun v => pure (some v)).wrap _ _ _ lv'') [] _
  refine cf_wbindC (cf_value (A' := A.in1) (B := fun r s' => r = .ok (.ret .none) ∧ Q s') rfl ?_ (by rw [hov]; exact Le.refl _) fun r s' hr => ?_)
  · unfold Cf.Call
    show Conf _ A.in1 _ _ (do checkBuiltinCall "list.__init__" ⟨[.ref s.heap.objs.size, .ref a], []⟩; again (.builtin "list.__init__" ⟨[.ref s.heap.objs.size, .ref a], []⟩)) [] _
    refine cf_bind ?_
    rw [over_call]
    refine slI.check _ _ _ _ _ _ _ _ ⟨_, hS, rfl⟩ (F.args_list_init_2 _ _) ?_
    refine cf_again (plainId_quiet slI.plain _) ?_
    rw [den_of F.entry_list_init]
    have hov2 : A.in1.over (.builtin "list.__init__" ⟨[.ref s.heap.objs.size, .ref a], []⟩) [] = A.in1.in1 := over_plain slI.plain _
    refine cf_tree ?_
    rw [hov2]
    have hSa : s.heap.objs.size ≠ a := Nat.ne_of_gt hlt
    show wpAny _ A.in1.in1 (do let old ← Builtin.List.listItems (.ref s.heap.objs.size); Builtin.List.listUpdate (.ref s.heap.objs.size) (fun _ => #[]); letGo old.toList.reverse; Builtin.List.listExtendWith (.ref s.heap.objs.size) (.ref a) .none) _ _ _
    refine wpAny_bind ?_
    unfold Builtin.List.listItems
    refine wpAny_bind (wpAny_seqItems hS rfl (wpAny_pure ?_))
    show wpAny _ A.in1.in1 (updateSeq s.heap.objs.size (fun _ => #[]) >>= fun _ => letGo (#[] : Array Value).toList.reverse >>= fun _ => Builtin.List.listExtendWith (.ref s.heap.objs.size) (.ref a) .none) _ _ _
    refine wpAny_bind (wpAny_updateSeq hS rfl ?_)
    have hS2 := Heap.get?_update_self (Obj.mapSeq (fun _ => (#[] : Array Value))) hS rfl
    refine wpAny_bind (wpAny_letGo ?_)
    unfold Builtin.List.listExtendWith
    have up : ∀ (h : Heap) (f : Obj → Obj), (∀ b o, s.heap.get? b = some o → h.get? b = some o) → ∀ b o, s.heap.get? b = some o → (h.update s.heap.objs.size f).get? b = some o := fun h f q b o e =>
      (Heap.get?_update_other _ _ (Ne.symm (Nat.ne_of_lt (Heap.lt_size e)))).trans (q b o e)
    have k1 : ∀ b o, s.heap.get? b = some o → (s.heap.push { cls := .type "list", data := .seq #[] }).get? b = some o := fun b o e => Heap.get?_push_of_some _ e
    have k2 := up _ (Obj.mapSeq (fun _ => (#[] : Array Value))) k1
    have gty : ∀ {h : Heap}, (∀ b o, s.heap.get? b = some o → h.get? b = some o) → h.IsGen a g := fun {h} q => hg.keeps q
    refine wpAny_bind (wpAny_typeOf (Heap.IsGen.typeIs (s := { s with heap := _ }) (gty k2)) ?_)
    have h1 : Builtin.List.listSameRef (.ref s.heap.objs.size) (.ref a) = false := by simp [Builtin.List.listSameRef, hSa]
    have h2 : (Value.type "generator" == Value.type "list") = false := by decide
    have h3 : (Value.type "generator" == Value.type "tuple") = false := by decide
    simp only [h1, h2, h3, Bool.or_false, Bool.false_eq_true, if_false]
    refine wpAny_bind (wpAny_pyIter_gen (s := { s with heap := _ }) (gty k2) ?_)
    refine wpAny_bind (wpAny_holding ?_)
    unfold Builtin.List.listLengthHint
    refine wpAny_bind (wpAny_specialOf (Heap.IsGen.typeIs (s := { s with heap := _ }) (gty k2)) F.gen_no_len ?_)
    show wpAny _ A.in1.in1 (specialOf (Value.ref a) (Str.ofString "__length_hint__") >>= _) _ _ _
    refine wpAny_bind (wpAny_specialOf (Heap.IsGen.typeIs (s := { s with heap := _ }) (gty k2)) F.gen_no_hint ?_)
    refine wpAny_pure ?_
    show wpAny _ A.in1.in1 (rule "list.extend.makes-room" >>= fun _ => Builtin.List.listTouch (.ref s.heap.objs.size) >>= fun _ =>
      again (.builtin "list.extend.loop" ⟨[.ref s.heap.objs.size, .ref a, .none], []⟩)) _ _ _
    refine wpAny_bind (wpAny_rule ?_)
    refine wpAny_bind ?_
    show wpAny _ A.in1.in1 (updateSeq s.heap.objs.size (·.push .none) >>= fun _ => updateSeq s.heap.objs.size (·.pop)) _ _ _
    refine wpAny_bind (wpAny_updateSeq hS2 rfl ?_)
    have hS3 := Heap.get?_update_self (Obj.mapSeq (·.push Value.none)) hS2 rfl
    refine wpAny_updateSeq (hz := by seq_fits) hS3 rfl ?_
    have hS4 := Heap.get?_update_self (Obj.mapSeq (·.pop)) hS3 rfl
    have k4 := up _ (Obj.mapSeq (·.pop)) (up _ (Obj.mapSeq (·.push Value.none)) k2)
    refine wpAny_pure (cf_again (plainId_quiet F.plain_extend_loop _) (h _ _ k4 hS4 ?_))
    rw [Heap.size_update, Heap.size_update, Heap.size_update, Heap.size_push]
  · obtain ⟨rfl, hq⟩ := hr
    exact cf_back (.ok (.ret (.ref s.heap.objs.size))) ⟨rfl, hq⟩
end
end Cf
end

section
set_option linter.all false
set_option maxRecDepth 100000
set_option maxHeartbeats 1000000
/-! list(g): its loop. -/
namespace Cf
open PySem PyProof.Rows
open Sem (wp)
/-- while a list is filled from D -/
structure Dr (D : Gn) (S : Addr) (H : L2.Hp) (s : Shared) (H' : L2.Hp) (s' : Shared) : Prop where
  os : s'.os = s.os
  keep : ∀ b o, b < D.n → b ≠ D.L → b ≠ S → b ∉ L2.frs D.outer → s.heap.get? b = some o → H b = none → (∀ v, o.data ≠ .cell v) → s'.heap.get? b = some o ∧ H' b = none
  slot : ∀ b o, b ∈ L2.frs D.outer → s.heap.get? b = some o → ∃ sl, s'.heap.get? b = some { o with slots := sl }
  frf : ∀ b ∈ L2.frs D.outer, H' b = none
  bs : ∀ b o, D.base.get? b = some o → s'.heap.get? b = some o ∧ H' b = none
  same : Same H H'
  hok : L2.HOk D.prog D.w H' s'.heap
  sz : s.heap.objs.size ≤ s'.heap.objs.size
  gsz : s.gens.size ≤ s'.gens.size
  gold : ∀ (i : Nat) (x : GenState), i < D.gn → i ≠ D.g → s.gens[i]? = some x → inert x = true → s'.gens[i]? = some x
  gnew : ∀ (i : Nat) (x : GenState), s'.gens[i]? = some x → s.gens[i]? = some x ∨ x.bare = true ∨ D.gn ≤ i ∨ i = D.g
section
variable {D : Gn} {S a : Addr} {H H' H'' : L2.Hp} {s s' s'' : Shared}
theorem Dr.trans (x : Dr D S H s H' s') (y : Dr D S H' s' H'' s'') : Dr D S H s H'' s'' where
  os := y.os.trans x.os
  keep := fun b o h1 h2 h3 h4 e n c => let ⟨e', n'⟩ := x.keep b o h1 h2 h3 h4 e n c; y.keep b o h1 h2 h3 h4 e' n' c
  slot := fun b o hb e => by
    obtain ⟨_, e1⟩ := x.slot b o hb e
    obtain ⟨sl, e2⟩ := y.slot b _ hb e1
    exact ⟨sl, e2⟩
  frf := y.frf
  bs := y.bs
  same := x.same.trans y.same
  hok := y.hok
  sz := Nat.le_trans x.sz y.sz
  gsz := Nat.le_trans x.gsz y.gsz
  gold := fun i z h1 h2 e h => y.gold i z h1 h2 (x.gold i z h1 h2 e h) h
  gnew := fun i z e => (y.gnew i z e).elim (fun q => x.gnew i z q) .inr
theorem Dr.of_stp (z : Stp D H s H' s') : Dr D S H s H' s' where
  os := z.os
  keep := fun b o h1 h2 _ h4 e n c => z.keep b o h1 h2 h4 e n c
  slot := z.slot
  frf := z.frf
  bs := z.bs
  same := z.same
  hok := z.hok
  sz := z.sz
  gsz := z.gsz
  gold := fun i x h1 _ e h => z.gold i x h1 e h
  gnew := fun i x e => (z.gnew i x e).elim .inl fun q => .inr (q.elim .inl fun r => .inr (.inl r))
/-- the consumer's own steps: at S and at the generator's entry -/
theorem Dr.raw (frf : ∀ b ∈ L2.frs D.outer, H b = none) (bs : ∀ b o, D.base.get? b = some o → s.heap.get? b = some o ∧ H b = none) (hok : L2.HOk D.prog D.w H s'.heap) (hSf : S ∉ L2.frs D.outer) (hSb : D.base.get? S = none) (os : s'.os = s.os)
    (k : ∀ b o, b ≠ S → s.heap.get? b = some o → s'.heap.get? b = some o) (sz : s.heap.objs.size ≤ s'.heap.objs.size) (gsz : s.gens.size ≤ s'.gens.size) (gk : ∀ i : Nat, i ≠ D.g → s'.gens[i]? = s.gens[i]?) : Dr D S H s H s' where
  os := os
  keep := fun b o _ _ h3 _ e n _ => ⟨k b o h3 e, n⟩
  slot := fun b o hb e => ⟨o.slots, k b o (fun q => hSf (q ▸ hb)) e⟩
  frf := frf
  bs := fun b o e => ⟨k b o (fun q => by rw [q, hSb] at e; cases e) (bs b o e).1, (bs b o e).2⟩
  same := Same.refl _
  hok := hok
  sz := sz
  gsz := gsz
  gold := fun i x _ h2 e _ => by rw [gk i h2]; exact e
  gnew := fun i x e => by
    by_cases h : i = D.g
    · exact .inr (.inr (.inr h))
    · rw [gk i h] at e; exact .inl e
end
/-- what has been put into the list -/
inductive Puts {τ : Type} (Out : τ → Value → L2.Hp → Prop) (H : L2.Hp) : List τ → List Value → Prop
  | nil : Puts Out H [] []
  | cons {t : τ} {v : Value} {ts : List τ} {vs : List Value} : Out t v H → Puts Out H ts vs → Puts Out H (t :: ts) (v :: vs)
theorem Puts.snoc {τ : Type} {Out : τ → Value → L2.Hp → Prop} {H : L2.Hp} {t : τ} {v : Value} (h : Out t v H) : ∀ {ts : List τ} {vs : List Value}, Puts Out H ts vs → Puts Out H (ts ++ [t]) (vs ++ [v])
  | _, _, .nil => .cons h .nil
  | _, _, .cons q r => .cons q (Puts.snoc h r)
theorem Puts.imp {τ : Type} {Out : τ → Value → L2.Hp → Prop} {H H' : L2.Hp} (q : ∀ t v, Out t v H → Out t v H') : ∀ {ts : List τ} {vs : List Value}, Puts Out H ts vs → Puts Out H' ts vs
  | _, _, .nil => .nil
  | _, _, .cons x r => .cons (q _ _ x) (Puts.imp q r)
theorem drain_conf {τ : Type} {Out : τ → Value → L2.Hp → Prop} (hout : ∀ H H' t v, Same H H' → Out t v H → Out t v H') {D : Gn} (ok : D.Ok) {A : Around} {S a : Addr} (hSn : S < D.n) (hSL : S ≠ D.L) (hSf : S ∉ L2.frs D.outer) (hSb : D.base.objs.size ≤ S) (hSa : S ≠ a)
    (han : a < D.n) (haL : a ≠ D.L) (haf : a ∉ L2.frs D.outer) (hl : Le A.in1.in1 D.A) (hh : A.handled = none) (hroom : A.depth < recursionLimit) {H₀ : L2.Hp} {s₀ : Shared} {all : List τ} {Q : Shared → Prop}
    (hend : ∀ H' s' acc c, Dr D S H₀ s₀ H' s' → (∀ (i : Nat) (x : GenState), D.g ≤ i → D.gn ≤ i ∨ i = D.g → s'.gens[i]? = some x → x.bare = true) → H' S = none → s'.heap.get? S = some (L2.lstObj acc c) → Puts Out H' all acc.toList → Q s') :
    ∀ (ts done : List τ) (x : GenState) (H : L2.Hp) (s : Shared) (acc : Array Value) (c : Nat), all = done ++ ts → acc.size + ts.length ≤ 1000 → Dr D S H₀ s₀ H s → Puts Out H done acc.toList → H S = none → H a = none → s.heap.get? S = some (L2.lstObj acc c) →
      GenAt s.heap a D.g → s.gens[D.g]? = some x → Wake D.M D.A D.g x (.send .none) (s.setGen D.g .running) (SB D ts H (s.setGen D.g .running)) (SY D Out ts H (s.setGen D.g .running)) →
      Conf D.M A (RRest D.M fun r s' => r = .ok (.ret .none) ∧ Q s') (.builtin "list.extend.loop" ⟨[.ref S, .ref a, .none], []⟩) (D.M.den (.builtin "list.extend.loop" ⟨[.ref S, .ref a, .none], []⟩)) [] s := by
  have hSbn : D.base.get? S = none := Heap.get?_none_of_le hSb
  have hov : A.over (.builtin "list.extend.loop" ⟨[.ref S, .ref a, .none], []⟩) [] = A.in1 := over_plain F.plain_extend_loop _
  have hden : D.M.den (.builtin "list.extend.loop" ⟨[.ref S, .ref a, .none], []⟩) = (pyNext (.ref a) >>= fun r => match r with
      | none => ret .none
      | some x => Builtin.List.listUpdate (.ref S) (·.push x) >>= fun _ => again (.builtin "list.extend.loop" ⟨[.ref S, .ref a, .none], []⟩)) := by
    show (model D.prog D.w).den _ = _
    rw [den_of F.entry_extend_loop]
    rfl
  intro ts
  induction ts with
  | nil =>
    intro done x H s acc c hall hlen dr hp hS0 ha0 hS hg hx hw
    have hlim : s.heap.NoLimit := ok.mod.nolimit.keeps fun b o e => (dr.bs b o e).1
    rw [hden, ← wrap_id (pyNext (.ref a) >>= _)]
    refine cf_wbindC (cf_pyNext rfl hg hx hw (by rw [hov]; exact hl) (by rw [hov]; exact hh) hlim (by rw [hov]; exact hroom) (fun r s' hb => hb.1) (fun v s₁ y hy => hy.elim) fun s₁ h' hb hk => ?_)
    obtain ⟨_, H1, fn⟩ := hb
    have d1 : Dr D S H s H (s.setGen D.g .running) := Dr.raw dr.frf dr.bs dr.hok hSf hSbn rfl (fun _ _ _ e => e) (Nat.le_refl _) (Nat.le_of_eq (GenW.setGen_size _ _ _).symm) fun i hi => by rw [setGen_eq, if_neg hi]
    have d2 : Dr D S H₀ s₀ H1 s₁ := (dr.trans d1).trans (Dr.of_stp fn.toStp)
    obtain ⟨eS, nS⟩ := fn.keep S _ hSn hSL hSf hS hS0 fun v q => nomatch q
    have hgr : s₁.gens[D.g]? = some .running := fn.gold D.g .running ok.ggn (setGen_at hx) rfl
    have d3 : Dr D S H₀ s₀ H1 { s₁.setGen D.g .finished with heap := h' } := d2.trans (Dr.raw d2.frf d2.bs (d2.hok.kept hk.1) hSf hSbn rfl (fun b o _ e => hk.1 b o e) hk.2 (Nat.le_of_eq (GenW.setGen_size s₁ D.g _).symm) fun i hi => by
      show (s₁.setGen D.g _).gens[i]? = _; rw [setGen_eq, if_neg hi])
    refine cf_back (.ok (.ret .none)) ⟨rfl, hend H1 _ acc c d3 (fun i x _ hi e => ?_) nS (hk.1 _ _ eS) ?_⟩
    · have e' : (s₁.setGen D.g .finished).gens[i]? = some x := e
      by_cases hig : i = D.g
      · subst hig
        rw [setGen_at hgr] at e'; cases e'; rfl
      · rw [setGen_eq, if_neg hig] at e'
        exact fn.fin i x e' (hi.resolve_right hig)
    · rw [hall, List.append_nil]
      exact hp.imp fun t v q => hout _ _ _ _ fn.same q
  | cons t ts ih =>
    intro done x H s acc c hall hlen dr hp hS0 ha0 hS hg hx hw
    have hlim : s.heap.NoLimit := ok.mod.nolimit.keeps fun b o e => (dr.bs b o e).1
    rw [hden, ← wrap_id (pyNext (.ref a) >>= _)]
    refine cf_wbindC (cf_pyNext rfl hg hx hw (by rw [hov]; exact hl) (by rw [hov]; exact hh) hlim (by rw [hov]; exact hroom) (fun r s' hb => hb.elim) (fun v s₁ y hy => ?_) fun s₁ h' hb hk => hb.elim)
    obtain ⟨H1, stc, ⟨ρ, J⟩, ho, hi, hf⟩ := hy
    have hnC : ∀ v, (L2.lstObj acc c).data ≠ .cell v := fun v q => nomatch q
    have d1 : Dr D S H s H (s.setGen D.g .running) := Dr.raw dr.frf dr.bs dr.hok hSf hSbn rfl (fun _ _ _ e => e) (Nat.le_refl _) (Nat.le_of_eq (GenW.setGen_size _ _ _).symm) fun i hi => by rw [setGen_eq, if_neg hi]
    have d2 : Dr D S H₀ s₀ H1 s₁ := (dr.trans d1).trans (Dr.of_stp stc)
    obtain ⟨eS, nS⟩ := stc.keep S _ hSn hSL hSf hS hS0 hnC
    obtain ⟨o, nm, qn, hoa, hc, hd, hsl⟩ := id hg
    obtain ⟨ea, na⟩ := stc.keep a o han haL haf hoa ha0 fun v q => by rw [hd] at q; cases q
    have hgr : s₁.gens[D.g]? = some .running := stc.gold D.g .running ok.ggn (setGen_at hx) rfl
    have hasz : acc.size < sizeLine := Nat.lt_of_le_of_lt (show acc.size ≤ 1000 by omega) (by decide)
    show Conf _ A _ _ ((updateSeq S (·.push v) >>= fun _ => again (.builtin "list.extend.loop" ⟨[.ref S, .ref a, .none], []⟩)).wrap _ _ _ _) [] _
    refine cf_wbindN (wpAny_updateSeq (s := s₁.setGen D.g y) eS rfl ?_ (Nat.le_of_lt hasz) (by show (acc.push v).size ≤ sizeLine + 1; rw [Array.size_push]; omega))
    refine cf_again (plainId_quiet F.plain_extend_loop _) ?_
    have up : ∀ b u, b ≠ S → s₁.heap.get? b = some u → (s₁.heap.update S (Obj.mapSeq (·.push v))).get? b = some u := fun b u hb e => (Heap.get?_update_other _ _ (Ne.symm hb)).trans e
    have eS2 : (s₁.heap.update S (Obj.mapSeq (·.push v))).get? S = some (Obj.mapSeq (·.push v) (L2.lstObj acc c)) := Heap.get?_update_self _ eS rfl
    have hok2 : L2.HOk D.prog D.w H1 (s₁.heap.update S (Obj.mapSeq (·.push v))) := hok_at d2.hok nS up
    have d3 : Dr D S H₀ s₀ H1 { s₁.setGen D.g y with heap := s₁.heap.update S (Obj.mapSeq (·.push v)) } := d2.trans (Dr.raw d2.frf d2.bs hok2 hSf hSbn rfl up
      (by show s₁.heap.objs.size ≤ (s₁.heap.update S _).objs.size; rw [Heap.size_update]; exact Nat.le_refl _) (Nat.le_of_eq (GenW.setGen_size s₁ D.g _).symm) fun i hi => by
      show (s₁.setGen D.g _).gens[i]? = _; rw [setGen_eq, if_neg hi])
    have hgy : (s₁.setGen D.g y).gens[D.g]? = some y := setGen_at hgr
    have sl : Slp D H1 s₁ H1 (Shared.setGen { s₁.setGen D.g y with heap := s₁.heap.update S (Obj.mapSeq (·.push v)) } D.g .running) := by
      refine ⟨rfl, fun u e => up _ u (Ne.symm hSL) e, J.free, fun b u hb e n _ => ⟨up b u (fun q => by rw [q] at hb; exact absurd (Nat.lt_of_lt_of_le hSn hb) (Nat.lt_irrefl _)) e, n⟩, d3.bs, funs_kept J.funs fun b u hb e => up b u (fun q => hSf (q ▸ hb)) e, J.frf, Same.refl _, hok2, ?_, ?_, fun i z h1 e h => ?_, fun i z e => ?_⟩
      · show s₁.heap.objs.size ≤ (s₁.heap.update S _).objs.size
        rw [Heap.size_update]; exact Nat.le_refl _
      · show s₁.gens.size ≤ ((s₁.setGen D.g y).setGen D.g .running).gens.size
        rw [GenW.setGen_size, GenW.setGen_size]; exact Nat.le_refl _
      · have hne : i ≠ D.g := by have := ok.ggn; omega
        show ((s₁.setGen D.g y).setGen D.g .running).gens[i]? = some z
        rw [setGen_eq, if_neg hne, setGen_eq, if_neg hne]; exact e
      · have e' : ((s₁.setGen D.g y).setGen D.g .running).gens[i]? = some z := e
        by_cases hne : i = D.g
        · subst hne
          rw [setGen_at hgy] at e'; cases e'; exact .inr rfl
        · rw [setGen_eq, if_neg hne, setGen_eq, if_neg hne] at e'
          exact .inl e'
    have q := fut_iff.mp hf H1 _ sl (setGen_at (s := { s₁.setGen D.g y with heap := s₁.heap.update S (Obj.mapSeq (·.push v)) }) hgy)
    refine ih (done ++ [t]) y H1 _ (acc.push v) _ (by rw [hall, List.append_assoc]; rfl) (by rw [Array.size_push]; rw [List.length_cons] at hlen; omega) d3 ?_ nS na eS2 ⟨o, nm, qn, up _ _ (Ne.symm hSa) ea, hc, hd, hsl⟩ hgy q
    rw [Array.toList_push]
    exact Puts.snoc ho (hp.imp fun t v q => hout _ _ _ _ stc.same q)
end Cf
end

section
set_option linter.all false
set_option maxRecDepth 100000
set_option maxHeartbeats 1000000
/-! places_from: its plain parts. -/
namespace Pf
open PySem PySem.Spec PyProof.Rows L2 Cf
def topS (i : Nat) : Stmt := PySem.Challenge.pw_pieceround_k52_whole_closed_sets_bar_wal.main.body.getD i (.Pass ⟨0, 0, 0, 0⟩)
theorem same_upd {H : Hp} {p : Addr} {o : HO} (h : H p = none) : Cf.Same H (upd H p o) := fun b x e => by
  rw [upd_ne (ne_of_none e h)]
  exact e

/-- a def of the text, by its statement -/
abbrev dOf (x : Str) (st : Stmt) (kV doc pm cd ct oc : Value) (an od : Option Addr) (osl : Array (Option Value)) : Df :=
  ⟨x, x, defArgs st, defBody st, defScope st, .none, kV, doc, pm, cd, ct, oc, an, od, osl⟩
def plainNames (sc : Scope) : Bool := sc.names.all fun y => !decide (y.2 = .cell) && !decide (y.2 = .free)
theorem flat_aux : ∀ (n : Nat) (l : List (Str × NameKind)), (l.all fun y => !decide (y.2 = .cell) && !decide (y.2 = .free)) = true → cellsFrom n l [] = []
  | _, [], _ => rfl
  | n, (x, k) :: r, h => by
    rw [List.all_cons, Bool.and_eq_true] at h
    have hk : (k == .cell) = false := by
      have := h.1
      cases k <;> first | rfl | cases this
    unfold cellsFrom
    rw [hk, if_neg Bool.false_ne_true]
    exact flat_aux n r h.2
theorem nofc_of {sc : Scope} (h : plainNames sc = true) (x : Str) : sc.names.lookup x ≠ some .cell ∧ sc.names.lookup x ≠ some .free := by
  have key : ∀ k, sc.names.lookup x = some k → (k ≠ .cell ∧ k ≠ .free) := fun k e => by
    have hm := PySem.mem_of_lookup e
    have := List.all_eq_true.mp h _ hm
    cases k <;> first | exact ⟨by decide, by decide⟩ | cases this
  exact ⟨fun e => (key _ e).1 rfl, fun e => (key _ e).2 rfl⟩

abbrev sPF : Stmt := topS 25
abbrev NPF : List Str := ["start", "left", "index", "place"]
theorem gsPF : GScope NPF ["start", "left"] (defScope sPF) := ⟨rfl, rfl, rfl, by decide +kernel, rfl, by decide +kernel, by decide +kernel⟩
theorem flPF : plainNames (defScope sPF) = true := by decide +kernel

section
variable {P : Program} {w : World} {K : PySem.W.Frag} {mg : Str → Option Value} {base : Heap} {f L : Addr} {A : Around} {outer : List Env} {kV doc pm cd ct oc : Value} {an od : Option Addr} {osl : Array (Option Value)}
abbrev cPF (P : Program) (w : World) (K : PySem.W.Frag) (mg : Str → Option Value) (base : Heap) (f : Addr) (cd : Value) (A : Around) (outer : List Env) (L : Addr) : BC := ⟨P, w, K, mg, base, A, NPF, "places_from", defScope sPF, f, cd, outer, L⟩
theorem okPF (hm : Mod K mg base) (hd : A.handled = none) (hf : A.frames = some outer) (hb : base.objs.size ≤ L) (hl : ∀ b ∈ frs outer, b < L) : (cPF P w K mg base f cd A outer L).Ok where
  mod := hm
  kind := rfl
  flat := fun x => by
    show (cellsFrom (L + 1) (defScope sPF).names []).lookup x = none
    rw [flat_aux _ _ flPF]; rfl
  nofc := fun x => nofc_of flPF x
  hd := hd
  frames := hf
  bsz := hb
  frlt := hl
end
def tIf : Stmt → Expr
  | .If t _ _ _ => t
  | _ => .Constant .none 0 ⟨0, 0, 0, 0⟩
abbrev tPF : Expr := tIf ((defBody sPF).getD 0 (.Pass ⟨0, 0, 0, 0⟩))
theorem dp_ints {K : PySem.W.Frag} {H : Hp} : ∀ xs : List Int, DpAll K H (xs.map V.int) (xs.map PyData.int)
  | [] => .nil
  | x :: r => .cons (.int x) (dp_ints r)
theorem ints_lay : ∀ xs : List Int, PyData.canLayAll0 (xs.map PyData.int) = true
  | [] => by simp [PyData.canLayAll0]
  | z :: zs => by simp [PyData.canLayAll0, PyData.canLay0, ints_lay zs]
theorem ints_depth : ∀ xs : List Int, PyData.depthAll (xs.map PyData.int) = 0
  | [] => by simp [PyData.depthAll]
  | z :: zs => by simp [PyData.depthAll, PyData.depth, ints_depth zs]
theorem shaped_ints (xs : List Int) : SeqAt.shaped (.list (xs.map PyData.int)) = true := by
  show (PyData.canLay0 (.list (xs.map PyData.int)) && decide (PyData.depth (.list (xs.map PyData.int)) ≤ 64)) = true
  rw [Bool.and_eq_true]
  exact ⟨by simp only [PyData.canLay0]; exact ints_lay xs, decide_eq_true (by simp only [PyData.depth, ints_depth]; omega)⟩
theorem shaped_intsT (xs : List Int) : SeqAt.shaped (.tuple (xs.map PyData.int)) = true := by
  show (PyData.canLay0 (.tuple (xs.map PyData.int)) && decide (PyData.depth (.tuple (xs.map PyData.int)) ≤ 64)) = true
  rw [Bool.and_eq_true]
  exact ⟨by simp only [PyData.canLay0]; exact ints_lay xs, decide_eq_true (by simp only [PyData.depth, ints_depth]; omega)⟩
section
variable {σ : L2.St} {H : Hp} {s : Shared} {k : Nat}
variable {P : Program} {w : World} {K : PySem.W.Frag} {mg : Str → Option Value} {base : Heap} {f L : Addr} {A : Around} {outer : List Env} {cd : Value} {t l : Addr} {a b : Option V} {lf : List Int}
theorem pf_test (ok : (cPF P w K mg base f cd A outer L).Ok) (I : BI (cPF P w K mg base f cd A outer L) [some (.ref t), some (.ref l), a, b] H s) (hl : H l = some (.lst (lf.map V.int))) (hr : Room k (A.deeper (cPF P w K mg base f cd A outer L).env)) :
    wpAny (model P w) (A.deeper (cPF P w K mg base f cd A outer L).env) (isTrue tPF (cPF P w K mg base f cd A outer L).env (eval tPF (cPF P w K mg base f cd A outer L).env))
      (fun r s' => ∃ σ' H', BI (cPF P w K mg base f cd A outer L) σ' H' s' ∧ (σ' = [some (.ref t), some (.ref l), a, b] ∧ r = decide (lf = []) ∧ Cf.Same H H') ∧ Kp (cPF P w K mg base f cd A outer L) [] H s H' s') NoX s := by
  refine run_plain ok I [] fun pins _ J => ?_
  have T : PT ((cPF P w K mg base f cd A outer L).cx H s) tPF _ := pt_cmpR (op_eqD hr.units) (pv 1) (pe_lst pa_nil) (nomark _)
  refine wpAny_mono (T.run pins _ _ H (fun r H' => r = decide (lf = []) ∧ Cf.Same H H') J ?_) (fun r s' ⟨H', J', h1, h2⟩ => ⟨_, H', J', rfl, h1, h2⟩) fun _ _ z => z
  refine ⟨.ref l, rfl, Nat.zero_le _, fun o no => ?_⟩
  have hl' : (upd H o (.lst [])) l = some (.lst (lf.map V.int)) := same_upd no _ _ hl
  refine ⟨.list (lf.map .int), .list [], .lst (.inl (.inl hl')) (dp_ints _), .lst (.inl (.inl upd_same)) .nil, shaped_ints _, by decide, _, rfl, ?_, same_upd no⟩
  cases lf with
  | nil => rfl
  | cons x r => rfl

abbrev fPF : Stmt := (defBody sPF).getD 1 (.Pass ⟨0, 0, 0, 0⟩)
def fTg : Stmt → Expr
  | .For t _ _ _ _ => t
  | _ => .Constant .none 0 ⟨0, 0, 0, 0⟩
def fIt : Stmt → Expr
  | .For _ i _ _ _ => i
  | _ => .Constant .none 0 ⟨0, 0, 0, 0⟩
def fBody : Stmt → List Stmt
  | .For _ _ b _ _ => b
  | _ => []
def yfE : Stmt → Expr
  | .Expr (.YieldFrom e _) _ => e
  | _ => .Constant .none 0 ⟨0, 0, 0, 0⟩
abbrev tgPF : Expr := fTg fPF
abbrev itPF : Expr := fIt fPF
abbrev bdPF : List Stmt := fBody fPF
abbrev ceP : Expr := yfE (bdPF.getD 0 (.Pass ⟨0, 0, 0, 0⟩))
/-- enumerate(left): the new iterator -/
theorem pf_iter (ok : (cPF P w K mg base f cd A outer L).Ok) (I : BI (cPF P w K mg base f cd A outer L) [some (.ref t), some (.ref l), a, b] H s) (hl : H l = some (.lst (lf.map V.int))) (mE : mg "enumerate" = none) :
    wpAny (model P w) (A.deeper (cPF P w K mg base f cd A outer L).env) (eval itPF (cPF P w K mg base f cd A outer L).env)
      (fun u s' => ∃ e i, u = .ref e ∧ ∃ σ' H', BI (cPF P w K mg base f cd A outer L) σ' H' s' ∧ (σ' = [some (.ref t), some (.ref l), a, b] ∧ H' = H ∧ s.heap.objs.size ≤ e ∧ s.heap.objs.size ≤ i ∧ IsEnum s'.heap e i ((0 : Nat) : Int) .none ∧ s'.heap.IsListIter i l 0 ∧ e ≠ i) ∧
        Kp (cPF P w K mg base f cd A outer L) [] H s H' s') NoX s := by
  refine wpAny_mono (run_plainG ok I [] (Post := fun u σ' H' s₁ => ∃ e i, u = .ref e ∧ σ' = [some (.ref t), some (.ref l), a, b] ∧ H' = H ∧ s.heap.objs.size ≤ e ∧ s.heap.objs.size ≤ i ∧ IsEnum s₁.heap e i ((0 : Nat) : Int) .none ∧ s₁.heap.IsListIter i l 0 ∧ e ≠ i) fun pins _ J => ?_)
    (fun u s' ⟨σ', H', G, I', ⟨e, i, h1, h2, h3, h4, h5, h6⟩, _, kp⟩ => ⟨e, i, h1, σ', H', I', ⟨h2, h3, h4, h5, h6⟩, kp⟩) fun _ _ z => z
  have A1 : PA ((cPF P w K mg base f cd A outer L).cx H s) [Expr.Name "left" ⟨155, 34, 155, 38⟩] _ := pa_cons (pv 1) pa_nil
  refine Call_ (ld_blt J (by rfl) mE boot_enumerate (PyProof.Rows.callWith_type1 (wpAny_sizes (thn (A1.run _ pins _ _ H (fun vs H1 => vs = [.ref l] ∧ H1 = H) J ⟨.ref l, rfl, rfl, rfl⟩) fun us s1 ⟨vs, H1, I1, r1, e1, e2⟩ hz _ => ?_)) (by rfl) rfl))
  subst e1 e2
  cases r1 with
  | cons r rr =>
    cases rr
    cases r
    obtain ⟨its, rv, p', hz'⟩ := I1.list (.inl (.inl hl))
    refine call_enumerate_list p'.isList fun h' he hit hsz hk => ?_
    exact ⟨_, _, I1.kept (t' := s1.toks) hk, _, _, rfl, rfl, rfl, Nat.le_trans hz (Nat.le_succ _), hz, he, hit, Nat.succ_ne_self _⟩
/-- a turn: the next place -/
theorem pf_turn {e i : Addr} {n : Nat} {x : Int} (ok : (cPF P w K mg base f cd A outer L).Ok) (I : BI (cPF P w K mg base f cd A outer L) [some (.ref t), some (.ref l), a, b] H s) (hl : H l = some (.lst (lf.map V.int)))
    (hst : (∃ old, IsEnum s.heap e i ((n : Nat) : Int) old) ∧ s.heap.IsListIter i l n ∧ e ≠ i) (he : H e = none) (hi : H i = none) (heL : L < e) (hiL : L < i) (hx : lf[n]? = some x) :
    wpAny (model P w) (A.deeper (cPF P w K mg base f cd A outer L).env) (pyNext (.ref e) >>= nextM tgPF (.ref e) (cPF P w K mg base f cd A outer L).env)
      (fun r s' => r = true ∧ ∃ σ' H', BI (cPF P w K mg base f cd A outer L) σ' H' s' ∧ (σ' = [some (.ref t), some (.ref l), some (.int n), some (.int x)] ∧ Cf.Same H H' ∧ H' e = none ∧ H' i = none ∧ (∃ old, IsEnum s'.heap e i ((n + 1 : Nat) : Int) old) ∧ s'.heap.IsListIter i l (n + 1)) ∧
        Kp (cPF P w K mg base f cd A outer L) [e, i] H s H' s') NoX s := by
  have hfr : ∀ q : Addr, L < q → q ∉ frs outer := fun q hq hm => absurd (Nat.lt_trans (ok.frlt q hm) hq) (Nat.lt_irrefl _)
  have T := turn_enum (P := P) (w := w) (K := K) (elts := [Expr.Name "index" ⟨155, 8, 155, 13⟩, Expr.Name "place" ⟨155, 15, 155, 20⟩]) (kk := 0) (tpos := ⟨155, 8, 155, 20⟩) l e i
  refine wpAny_mono (run_plainG ok I [e, i] (Post := fun r σ' H' s₁ => r = true ∧ σ' = [some (.ref t), some (.ref l), some (.int n), some (.int x)] ∧ Cf.Same H H' ∧ H' e = none ∧ H' i = none ∧ (∃ old, IsEnum s₁.heap e i ((n + 1 : Nat) : Int) old) ∧ s₁.heap.IsListIter i l (n + 1)) fun pins hpins J => ?_)
    (fun u s' ⟨σ', H', G, I', ⟨h1, h2, h3, h4, h5, h6⟩, _, kp⟩ => ⟨h1, σ', H', I', ⟨h2, h3, h4, h5, h6⟩, kp⟩) fun _ _ z => z
  have hf : ∀ q ∈ [e, i], FpOk ((cPF P w K mg base f cd A outer L).cx H s) pins H q := fun q hq => by
    have hq' : q = e ∨ q = i := by simpa using hq
    have hL' : L < q := by rcases hq' with z | z <;> rw [z] <;> assumption
    have hn : H q = none := by rcases hq' with z | z <;> rw [z] <;> assumption
    refine ⟨hn, Nat.ne_of_gt hL', hfr q hL', .inr ?_, fun y c z => ?_, fun p hp => ?_⟩
    · show (cut L s.heap).objs.size ≤ q
      rw [cut_size]
      exact Nat.le_trans (Nat.min_le_left _ _) (Nat.le_of_lt hL')
    · have := ok.flat y
      rw [show ((cPF P w K mg base f cd A outer L).cx H s).env.cells.lookup y = none from this] at z
      cases z
    · have hp' : p ∈ pins := by simpa [BC.cx] using hp
      intro z
      exact hpins p hp' (z ▸ hq)
  have hg : (Ite K l).go n H := ⟨_, .int x, .inl (.inl hl), by rw [List.getElem?_map, hx]; rfl⟩
  refine wpAny_bind (wpAny_mono (T.item ((cPF P w K mg base f cd A outer L).cx H s) rfl rfl rfl rfl n pins _ _ H NoX J hf hst hg) (fun r s1 hr1 => ?_) fun _ _ z => z)
  obtain ⟨u, rfl, hu⟩ := hr1
  show wpAny _ _ (letOwnedTupleGo tgPF (.ref e) u >>= fun _ => assign tgPF _ u >>= fun _ => pure true) _ _ s1
  refine wpAny_bind (wpAny_mono hu (fun _ s2 h2 => ?_) fun _ _ z => z)
  obtain ⟨v, H2, I2, rv, ⟨T2, y, rfl, hT, rfl, hy⟩, htn, hfree⟩ := h2
  have ey : y = .int x := by
    have := hy _ (.inl (.inl hl))
    rw [List.getElem?_map, hx] at this
    exact (Option.some.inj this).symm
  subst ey
  have G1 : PG ((cPF P w K mg base f cd A outer L).cx H s) tgPF _ := pg_tup rfl (pgs_cons (pg_name (i := 2) gsPF.nd rfl (.inl rfl)) (pgs_cons (pg_name (i := 3) gsPF.nd rfl (.inl rfl)) pgs_nil))
  obtain ⟨oe, hoe, ce⟩ := T.obj (n + 1) s2.heap htn e (by simp)
  obtain ⟨oi, hoi, ci⟩ := T.obj (n + 1) s2.heap htn i (by simp)
  have I2' : L2.Inv ((cPF P w K mg base f cd A outer L).cx H s) ((e, oe) :: (i, oi) :: pins) _ _ s2 := I2.pins_of fun p hp => by
    rcases List.mem_cons.mp hp with rfl | hp
    · exact ⟨hoe, hfree e (by simp), Nat.ne_of_gt heL, hfr e heL, ce⟩
    · rcases List.mem_cons.mp hp with rfl | hp
      · exact ⟨hoi, hfree i (by simp), Nat.ne_of_gt hiL, hfr i hiL, ci⟩
      · exact I2.pin p (List.mem_append_right _ hp)
  refine wpAny_bind (wpAny_mono (G1.run _ s2 _ _ _ _ (fun σ' H' => σ' = [some (.ref t), some (.ref l), some (.int n), some (.int x)] ∧ H' = upd H T2 (.tup [.int n, .int x])) I2' rv ?_) (fun _ s3 h3 => wpAny_pure ?_) fun _ _ z => z)
  · exact ⟨T2, [.int n, .int x], rfl, .inl (.inl upd_same), rfl, .int n, [.int x], rfl, .int x, [], rfl, rfl, rfl, rfl⟩
  · obtain ⟨σ3, H3, I3, rfl, rfl⟩ := h3
    have kept : ∀ q ∈ [e, i], ∀ o, s2.heap.get? q = some o → s3.heap.get? q = some o := fun q hq o ho => by
      have hq' : q = e ∨ q = i := by simpa using hq
      rcases hq' with rfl | rfl
      · rw [hoe] at ho; cases ho
        exact (I3.pin (_, oe) (List.mem_append_right _ List.mem_cons_self)).1
      · rw [hoi] at ho; cases ho
        exact (I3.pin (_, oi) (List.mem_append_right _ (List.mem_cons_of_mem _ List.mem_cons_self))).1
    obtain ⟨h1, h2, _⟩ := T.keep (n + 1) s2.heap s3.heap htn kept
    exact ⟨_, _, I3.pins_of fun p hp => I3.pin p (List.mem_append_right _ (List.mem_cons_of_mem _ (List.mem_cons_of_mem _ hp))), rfl, rfl, same_upd hT, hfree e (by simp), hfree i (by simp), h1, h2⟩
/-- the walk's end -/
theorem pf_end {e i : Addr} {n : Nat} (ok : (cPF P w K mg base f cd A outer L).Ok) (I : BI (cPF P w K mg base f cd A outer L) [some (.ref t), some (.ref l), a, b] H s) (hl : H l = some (.lst (lf.map V.int)))
    (hst : (∃ old, IsEnum s.heap e i ((n : Nat) : Int) old) ∧ s.heap.IsListIter i l n ∧ e ≠ i) (he : H e = none) (hi : H i = none) (heL : L < e) (hiL : L < i) (hx : lf.length ≤ n) :
    wpAny (model P w) (A.deeper (cPF P w K mg base f cd A outer L).env) (pyNext (.ref e) >>= nextM tgPF (.ref e) (cPF P w K mg base f cd A outer L).env)
      (fun r s' => ∃ σ' H', BI (cPF P w K mg base f cd A outer L) σ' H' s' ∧ (r = false ∧ σ' = [some (.ref t), some (.ref l), a, b] ∧ H' = H) ∧ Kp (cPF P w K mg base f cd A outer L) [e, i] H s H' s') NoX s := by
  have hfr : ∀ q : Addr, L < q → q ∉ frs outer := fun q hq hm => absurd (Nat.lt_trans (ok.frlt q hm) hq) (Nat.lt_irrefl _)
  have T := turn_enum (P := P) (w := w) (K := K) (elts := [Expr.Name "index" ⟨155, 8, 155, 13⟩, Expr.Name "place" ⟨155, 15, 155, 20⟩]) (kk := 0) (tpos := ⟨155, 8, 155, 20⟩) l e i
  refine run_plain ok I [e, i] (Post := fun r σ' H' => r = false ∧ σ' = [some (.ref t), some (.ref l), a, b] ∧ H' = H) fun pins hpins J => ?_
  have hf : ∀ q ∈ [e, i], FpOk ((cPF P w K mg base f cd A outer L).cx H s) pins H q := fun q hq => by
    have hq' : q = e ∨ q = i := by simpa using hq
    have hL' : L < q := by rcases hq' with z | z <;> rw [z] <;> assumption
    have hn : H q = none := by rcases hq' with z | z <;> rw [z] <;> assumption
    refine ⟨hn, Nat.ne_of_gt hL', hfr q hL', .inr ?_, fun y c z => ?_, fun p hp => ?_⟩
    · show (cut L s.heap).objs.size ≤ q
      rw [cut_size]
      exact Nat.le_trans (Nat.min_le_left _ _) (Nat.le_of_lt hL')
    · have := ok.flat y
      rw [show ((cPF P w K mg base f cd A outer L).cx H s).env.cells.lookup y = none from this] at z
      cases z
    · have hp' : p ∈ pins := by simpa [BC.cx] using hp
      intro z
      exact hpins p hp' (z ▸ hq)
  have hg : (Ite K l).stop n H := ⟨_, .inl (.inl hl), by rw [List.length_map]; exact hx⟩
  refine wpAny_bind (wpAny_mono (T.done ((cPF P w K mg base f cd A outer L).cx H s) rfl rfl rfl rfl n pins _ _ H NoX J hf hst hg) (fun r s1 hr1 => ?_) fun _ _ z => z)
  obtain ⟨rfl, J1⟩ := hr1
  exact wpAny_pure ⟨_, _, J1, rfl, rfl, rfl⟩
end
end Pf
end

section
set_option linter.all false
set_option maxRecDepth 100000
set_option maxHeartbeats 1000000
/-! places_from: the child's making. -/
namespace Pf
open PySem PySem.Spec PyProof.Rows L2 Cf
theorem small1000' {n : Nat} (h : n ≤ 100000) : n < sizeLine := Nat.lt_of_le_of_lt h (by decide)
def cArg (i : Nat) : Expr → Expr
  | .Call _ as _ _ => as.getD i (.Constant .none 0 ⟨0, 0, 0, 0⟩)
  | _ => .Constant .none 0 ⟨0, 0, 0, 0⟩
section
variable {σ : L2.St} {H : Hp} {s : Shared} {k : Nat}
variable {P : Program} {w : World} {K : PySem.W.Frag} {mg : Str → Option Value} {base : Heap} {f L : Addr} {A : Around} {outer : List Env} {t l : Addr} {a b : Option V} {lf st : List Int}
variable {kV doc pm cd ct oc : Value} {an od : Option Addr} {osl : Array (Option Value)}
theorem cut_take (xs : List V) (n : Nat) (h : n ≤ xs.length) : cutV xs none (some (n : Int)) = xs.take n := by
  unfold cutV
  rw [HT.sIx_none, HT.sIx_nat, Nat.min_eq_left h, Nat.sub_zero]
  rfl
theorem cut_drop (xs : List V) (n : Nat) (h : n ≤ xs.length) : cutV xs (some (n : Int)) none = xs.drop n := by
  unfold cutV
  rw [HT.sIx_none, HT.sIx_nat, Nat.min_eq_left h]
  exact List.take_of_length_le (by rw [List.length_drop]; omega)
theorem pf_made {n : Nat} {x : Int} (ok : (cPF P w K mg base f cd A outer L).Ok) (I : BI (cPF P w K mg base f cd A outer L) [some (.ref t), some (.ref l), some (.int n), some (.int x)] H s)
    (lk : K.lookup f = some ⟨oc, od, .func (dOf "places_from" sPF kV doc pm cd ct oc an od osl).fn, osl⟩) (hcd : PySem.W.codeIn K cd "places_from" = true) (hm : mg "places_from" = some (.ref f)) (hk : PySem.W.keepIn K (.ref f) = true)
    (hb : Binds K (dOf "places_from" sPF kV doc pm cd ct oc an od osl).fn ["start", "left"] []) (hr : Room k (A.deeper (cPF P w K mg base f cd A outer L).env))
    (ht : H t = some (.tup (st.map V.int))) (hl : H l = some (.lst (lf.map V.int))) (hx : lf[n]? = some x) (h1 : st.length ≤ 1000) (h2 : lf.length ≤ 1000) :
    wpAny (model P w) (A.deeper (cPF P w K mg base f cd A outer L).env) (eval ceP (cPF P w K mg base f cd A outer L).env)
      (fun u s' => ∃ t' l' H' a' L' g, u = .ref a' ∧ BI (cPF P w K mg base f cd A outer L) [some (.ref t), some (.ref l), some (.int n), some (.int x)] H' s' ∧ Kp (cPF P w K mg base f cd A outer L) [] H s H' s' ∧
        (H' t' = some (.tup ((st ++ [x]).map V.int)) ∧ H' l' = some (.lst ((lf.take n ++ lf.drop (n + 1)).map V.int)) ∧ Cf.Same H H') ∧
        s.heap.objs.size ≤ L' ∧ L' < a' ∧ a' < s'.heap.objs.size ∧ s.gens.size ≤ g ∧ s'.gens.size = g + 1 ∧ s'.heap.IsGen a' g ∧ H' a' = none ∧ s'.gens[g]? = some (.fresh (.func (defBody sPF) (envOfC "places_from" (defScope sPF) L' f cd))) ∧
        ∀ A', BI (cPF P w K mg base f cd A' ((cPF P w K mg base f cd A outer L).env :: outer) L') (start NPF [.ref t', .ref l']) H' s') NoX s := by
  have hn : n < lf.length := (List.getElem?_eq_some_iff.mp hx).1
  have T1 : PA ((cPF P w K mg base f cd A outer L).cx H s) [cArg 0 ceP, cArg 1 ceP] _ := pa_cons (pe_tup (StX.pa_star (pv 0) (pa_cons (pv 3) pa_nil)))
    (pa_cons (pe_op op_cat (pe_slice sl_list (pv 1) po_none (po_some (pv 2))) (pe_slice sl_list (pv 1) (po_some (pe_op op_add (pv 2) pe_int)) po_none)) pa_nil)
  refine wpAny_mono (eval_made (N := NPF) (Qa := fun vs H1 => ∃ t' l', vs = [.ref t', .ref l'] ∧ H1 t' = some (.tup ((st ++ [x]).map V.int)) ∧ H1 l' = some (.lst ((lf.take n ++ lf.drop (n + 1)).map V.int)) ∧ Cf.Same H H1) ok I lk hcd gsPF hr (by rfl) hm hk hb T1 ?_)
    (fun u s' hq => ?_) fun _ _ z => z
  · have hn1 : n ≤ (lf.map V.int).length := by rw [List.length_map]; omega
    have hn2 : n + 1 ≤ (lf.map V.int).length := by rw [List.length_map]; omega
    refine ⟨.ref t, rfl, t, st.map V.int, rfl, .inl (.inl (.inl ht)), .int x, rfl, ?_, fun t' nt => ?_⟩
    · rw [List.length_append, List.length_map]
      exact Nat.le_of_lt (small1000' (show st.length + 1 ≤ 100000 by omega))
    have s1 : Cf.Same H (upd H t' (.tup (st.map V.int ++ [.int x]))) := same_upd nt
    have hl1 := s1 _ _ hl
    refine ⟨.ref l, rfl, .int n, rfl, n, rfl, l, lf.map V.int, rfl, .inl (.inl hl1), fun c1 nc1 => ?_⟩
    have s2 := s1.trans (same_upd (o := .lst (cutV (lf.map V.int) none (some (n : Int)))) nc1)
    refine ⟨.ref l, rfl, .int n, rfl, n, 1, rfl, rfl, (n : Int) + 1, rfl, l, lf.map V.int, rfl, .inl (.inl (s2 _ _ hl)), fun c2 nc2 => ?_⟩
    have s3 := s2.trans (same_upd (o := .lst (cutV (lf.map V.int) (some ((n : Int) + 1)) none)) nc2)
    have e1 : upd (upd H t' (.tup (st.map V.int ++ [.int x]))) c1 (.lst (cutV (lf.map V.int) none (some (n : Int)))) c1 = some (.lst (cutV (lf.map V.int) none (some (n : Int)))) := upd_same
    have e2 := same_upd (o := .lst (cutV (lf.map V.int) (some ((n : Int) + 1)) none)) nc2 _ _ e1
    refine ⟨c1, c2, _, _, rfl, rfl, e2, upd_same, ?_, fun p np => ?_⟩
    · have h3 := cutV_length (lf.map V.int) none (some (n : Int))
      have h4 := cutV_length (lf.map V.int) (some ((n : Int) + 1)) none
      rw [List.length_map] at h3 h4
      exact Nat.le_of_lt (small1000' (show _ ≤ 100000 by omega))
    · have s4 := s3.trans (same_upd (o := .lst (cutV (lf.map V.int) none (some (n : Int)) ++ cutV (lf.map V.int) (some ((n : Int) + 1)) none)) np)
      refine ⟨rfl, t', p, rfl, ?_, ?_, s4⟩
      · have q : upd H t' (.tup (st.map V.int ++ [.int x])) t' = some (.tup (st.map V.int ++ [.int x])) := upd_same
        have q2 := same_upd (o := .lst (cutV (lf.map V.int) none (some (n : Int)))) nc1 _ _ q
        have q3 := same_upd (o := .lst (cutV (lf.map V.int) (some ((n : Int) + 1)) none)) nc2 _ _ q2
        have q4 := same_upd (o := .lst (cutV (lf.map V.int) none (some (n : Int)) ++ cutV (lf.map V.int) (some ((n : Int) + 1)) none)) np _ _ q3
        rw [List.map_append]
        exact q4
      · rw [upd_same, cut_take _ _ hn1, show ((n : Int) + 1) = ((n + 1 : Nat) : Int) from by omega, cut_drop _ _ hn2, List.map_append, List.map_take, List.map_drop]
  · obtain ⟨vs, H', a', L', g, e1, I', kp, ⟨t', l', rfl, q1, q2, q3⟩, z1, z2, z3, z4, z5, z6, z7, z8, z9⟩ := hq
    exact ⟨t', l', H', a', L', g, e1, I', kp, ⟨q1, q2, q3⟩, z1, z2, z3, z4, z5, z6, z7, z8, z9⟩
end
end Pf
end

section
set_option linter.all false
set_option maxRecDepth 100000
set_option maxHeartbeats 1000000
/-! places_from: what it hands out. -/
namespace Pf
open PySem PySem.Spec PyProof.Rows L2 Cf
/-- the orders of left's items, behind st -/
def outsP : Nat → List Int → List Int → List (List Int)
  | 0, st, _ => [st]
  | m + 1, st, lf => (List.range (m + 1)).flatMap fun i => outsP m (st ++ [lf.getD i 0]) (lf.take i ++ lf.drop (i + 1))
/-- the turns from the n-th on -/
def outsF (m : Nat) (st lf : List Int) (n : Nat) : List (List Int) := ((List.range m).drop n).flatMap fun i => outsP (m - 1) (st ++ [lf.getD i 0]) (lf.take i ++ lf.drop (i + 1))
theorem outsF_step {m : Nat} {st lf : List Int} {n : Nat} (h : n < m) : outsF m st lf n = outsP (m - 1) (st ++ [lf.getD n 0]) (lf.take n ++ lf.drop (n + 1)) ++ outsF m st lf (n + 1) := by
  unfold outsF
  have e : (List.range m).drop n = n :: (List.range m).drop (n + 1) := by
    rw [List.drop_eq_getElem_cons (by rw [List.length_range]; exact h)]
    congr 1
    exact List.getElem_range _
  rw [e]; rfl
theorem outsF_end {m : Nat} {st lf : List Int} {n : Nat} (h : m ≤ n) : outsF m st lf n = [] := by
  unfold outsF
  rw [List.drop_eq_nil_of_le (by rw [List.length_range]; exact h)]; rfl
def OutP (t : List Int) (v : Value) (H : Hp) : Prop := ∃ p, v = .ref p ∧ H p = some (.tup (t.map V.int))

/-- the text of places_from, as it stands -/
structure TxP (K : PySem.W.Frag) (mg : Str → Option Value) (base : Heap) (f : Addr) (kV doc pm cd ct oc : Value) (an od : Option Addr) (osl : Array (Option Value)) : Prop where
  lk : K.lookup f = some ⟨oc, od, .func (dOf "places_from" sPF kV doc pm cd ct oc an od osl).fn, osl⟩
  hcd : PySem.W.codeIn K cd "places_from" = true
  hm : mg "places_from" = some (.ref f)
  hk : PySem.W.keepIn K (.ref f) = true
  hb : Binds K (dOf "places_from" sPF kV doc pm cd ct oc an od osl).fn ["start", "left"] []
  mE : mg "enumerate" = none
  mod : Mod K mg base
section
variable {P : Program} {w : World} {K : PySem.W.Frag} {mg : Str → Option Value} {base : Heap} {f : Addr} {kV doc pm cd ct oc : Value} {an od : Option Addr} {osl : Array (Option Value)}
/-- what stands while the loop is at its n-th item -/
def JP (t l e i : Addr) (st lf : List Int) (n : Nat) (H : Hp) (s : Shared) : Prop :=
  H t = some (.tup (st.map V.int)) ∧ H l = some (.lst (lf.map V.int)) ∧ ((∃ old, IsEnum s.heap e i ((n : Nat) : Int) old) ∧ s.heap.IsListIter i l n ∧ e ≠ i) ∧ H e = none ∧ H i = none
theorem jp_keep (P : Program) (w : World) {t l e i : Addr} {st lf : List Int} {n : Nat} {H H' : Hp} {s s' : Shared} (j : JP t l e i st lf n H s) (hs : Cf.Same H H') (k : ∀ b ∈ [e, i], ∀ o, s.heap.get? b = some o → H b = none → (∀ v, o.data ≠ .cell v) → s'.heap.get? b = some o ∧ H' b = none) : JP t l e i st lf n H' s' := by
  obtain ⟨h1, h2, hst, h4, h5⟩ := j
  have T := turn_enum (P := P) (w := w) (K := []) (elts := []) (kk := 0) (tpos := default) l e i
  obtain ⟨oe, hoe, ce⟩ := T.obj n s.heap hst e (by simp)
  obtain ⟨oi, hoi, ci⟩ := T.obj n s.heap hst i (by simp)
  have ke := k e (by simp) oe hoe h4 ce
  have ki := k i (by simp) oi hoi h5 ci
  refine ⟨hs _ _ h1, hs _ _ h2, T.keep n s.heap s'.heap hst fun q hq o ho => ?_, ke.2, ki.2⟩
  have hq' : q = e ∨ q = i := by simpa using hq
  rcases hq' with rfl | rfl
  · rw [hoe] at ho; cases ho; exact ke.1
  · rw [hoi] at ho; cases ho; exact ki.1

theorem genAt_of {h : Heap} {a g : Nat} (x : h.IsGen a g) : GenAt h a g := by
  obtain ⟨o, nm, qn, ho, hc, hd, hs⟩ := x
  refine ⟨o, nm, qn, ho, hc, hd, fun n t e => ?_⟩
  rw [hs] at e
  cases e
/-- the body as a generator's -/
abbrev gPF (P : Program) (w : World) (K : PySem.W.Frag) (mg : Str → Option Value) (base : Heap) (f : Addr) (cd : Value) (A : Around) (outer : List Env) (L n gn g : Nat) : Gn := ⟨cPF P w K mg base f cd A outer L, n, gn, g⟩
/-- what is handed out, of a generator that has not begun -/
def FutP (P : Program) (w : World) (K : PySem.W.Frag) (mg : Str → Option Value) (base : Heap) (f : Addr) (cd : Value) (m : Nat) : Prop :=
  ∀ (A : Around) (outer : List Env) (L n g : Nat) (H : Hp) (s : Shared) (t l : Addr) (st lf : List Int), lf.length = m → st.length + m ≤ 1000 → Room (m + 3) A → A.frames = some outer → base.objs.size ≤ L → (∀ b ∈ frs outer, b < L) →
    L < n → n ≤ s.heap.objs.size → g < s.gens.size → BI (cPF P w K mg base f cd A outer L) (start NPF [.ref t, .ref l]) H s → H t = some (.tup (st.map V.int)) → H l = some (.lst (lf.map V.int)) →
    Fut (gPF P w K mg base f cd A outer L n s.gens.size g) OutP (outsP m st lf) (.fresh (.func (defBody sPF) (envOfC "places_from" (defScope sPF) L f cd))) H s

/-- the loop, from its n-th turn on -/
theorem pf_loop (T : TxP K mg base f kV doc pm cd ct oc an od osl) {m : Nat} (ih : ∀ m', m' < m → FutP P w K mg base f cd m') {A : Around} {outer : List Env} {L n₀ gn g : Nat} (ok : (gPF P w K mg base f cd A outer L n₀ gn g).Ok) (hr : Room (m + 3) A)
    {t l e i : Addr} {st lf : List Int} (hlf : lf.length = m) (hst : st.length + m ≤ 1000) (hen : n₀ ≤ e) (hin : n₀ ≤ i) {fs : List Frame}
    (hfs : splitAtGen fs = none) (hfg : fs.any Frame.guarded = false) (hn : NoH fs = true)
    (hov : A.over (.forLoop tgPF (.ref e) bdPF [] (cPF P w K mg base f cd A outer L).env) fs = A.deeper (cPF P w K mg base f cd A outer L).env)
    (fin : ∀ Hw sw H s a b, BI (cPF P w K mg base f cd A outer L) [some (.ref t), some (.ref l), a, b] H s → Stp (gPF P w K mg base f cd A outer L n₀ gn g) Hw sw H s → (∀ (i : Nat) (x : GenState), gn ≤ i → s.gens[i]? = some x → x.bare = true) →
      Conf (model P w) A (GRest (model P w) g (SB (τ := List Int) (gPF P w K mg base f cd A outer L n₀ gn g) [] Hw sw) (SY (gPF P w K mg base f cd A outer L n₀ gn g) OutP [] Hw sw)) (.forLoop tgPF (.ref e) bdPF [] (cPF P w K mg base f cd A outer L).env) (.pure (.again (.block [] (cPF P w K mg base f cd A outer L).env))) fs s) :
    ∀ (r n : Nat), n + r = m → ∀ (Hw : Hp) (sw : Shared) (H : Hp) (s : Shared) (a b : Option V), BI (cPF P w K mg base f cd A outer L) [some (.ref t), some (.ref l), a, b] H s → Stp (gPF P w K mg base f cd A outer L n₀ gn g) Hw sw H s →
      n₀ ≤ s.heap.objs.size → gn ≤ s.gens.size → JP t l e i st lf n H s → (∀ (i : Nat) (x : GenState), gn ≤ i → s.gens[i]? = some x → x.bare = true) →
      Conf (model P w) A (GRest (model P w) g (SB (gPF P w K mg base f cd A outer L n₀ gn g) (outsF m st lf n) Hw sw) (SY (gPF P w K mg base f cd A outer L n₀ gn g) OutP (outsF m st lf n) Hw sw)) (.forLoop tgPF (.ref e) bdPF [] (cPF P w K mg base f cd A outer L).env)
        ((model P w).den (.forLoop tgPF (.ref e) bdPF [] (cPF P w K mg base f cd A outer L).env)) fs s := by
  have heL : L < e := Nat.lt_of_lt_of_le ok.Ln hen
  have hiL : L < i := Nat.lt_of_lt_of_le ok.Ln hin
  intro r
  induction r with
  | zero =>
    intro n hnr Hw sw H s a b I stp hz hgz j hob
    obtain ⟨j1, j2, j3, j4, j5⟩ := id j
    rw [outsF_end (show m ≤ n by omega)]
    refine cf_turn2 fun Hh => ?_
    rw [hov]
    refine wpAny_mono (pf_end ok.toOk I j2 j3 j4 j5 heL hiL (by omega)) (fun b' s' hq => ?_) fun _ _ z => z
    obtain ⟨σ', H', I', ⟨rfl, rfl, rfl⟩, kp⟩ := hq
    rw [if_neg Bool.false_ne_true]
    refine fin Hw sw H' s' a b I' (stp.trans (Stp.of_kp I' (fun q hq => ?_) kp (Cf.Same.refl _))) fun k x hk e' => ?_
    · have hq' : q = e ∨ q = i := by simpa using hq
      rcases hq' with rfl | rfl <;> assumption
    · rcases kp.gens.new k x e' with z | z
      · exact hob k x hk z
      · exact z
  | succ r ihr =>
    intro n hnr Hw sw H s a b I stp hz hgz j hob
    obtain ⟨j1, j2, j3, j4, j5⟩ := id j
    have hnl : n < lf.length := by omega
    have hx : lf[n]? = some lf[n] := List.getElem?_eq_getElem hnl
    rw [outsF_step (show n < m by omega)]
    refine cf_turn2 fun Hh => ?_
    rw [hov]
    refine wpAny_mono (pf_turn ok.toOk I j2 j3 j4 j5 heL hiL hx) (fun b' s1 hq => ?_) fun _ _ z => z
    obtain ⟨rfl, σ1, H1, I1, ⟨rfl, sm1, f1, f2, en1, it1⟩, kp1⟩ := hq
    rw [if_pos rfl]
    have st1 : Stp (gPF P w K mg base f cd A outer L n₀ gn g) Hw sw H1 s1 := stp.trans (Stp.of_kp I1 (fun q hq => by
      have hq' : q = e ∨ q = i := by simpa using hq
      rcases hq' with rfl | rfl <;> assumption) kp1 sm1)
    have ob1 : ∀ (k : Nat) (x : GenState), gn ≤ k → s1.gens[k]? = some x → x.bare = true := fun k x hk e' => (kp1.gens.new k x e').elim (fun z => hob k x hk z) id
    have jp1 : JP t l e i st lf (n + 1) H1 s1 := ⟨sm1 _ _ j1, sm1 _ _ j2, ⟨en1, it1, j3.2.2⟩, f1, f2⟩
    refine cf_cons (cf_YieldFrom rfl ?_)
    rw [hov]
    refine wpAny_mono (pf_made (k := m + 2) ok.toOk I1 T.lk T.hcd T.hm T.hk T.hb (hr.deeper _) (sm1 _ _ j1) (sm1 _ _ j2) hx (by omega) (by omega)) (fun u s2 hq => ?_) fun _ _ z => z
    obtain ⟨t', l', H2, a', L', g', rfl, I2, kp2, ⟨q1, q2, sm2⟩, z1, z2, z3, z4, z5, z6, z7, z8, z9⟩ := hq
    refine ⟨a', g', rfl, z6, fun kk lv' p hkk => ?_⟩
    have hsz : n₀ ≤ s1.heap.objs.size := Nat.le_trans hz kp1.sz
    have hgsz : gn ≤ s1.gens.size := Nat.le_trans hgz kp1.gens.sz
    have hL'n : n₀ ≤ L' := Nat.le_trans hsz z1
    have hLL : L < L' := Nat.lt_of_lt_of_le ok.Ln hL'n
    have hAr : Room (m - 1 + 3) (A.deeper (cPF P w K mg base f cd A outer L).env).in1.in1 := by
      refine ⟨hr.hd, ?_, ?_⟩
      · have := hr.dp
        show A.depth + 1 + 3 * (m - 1 + 3) + 5 < recursionLimit
        omega
      · have := hr.un
        show A.units + 3 + 1 + 1 + 16 * (m - 1 + 3) + 200 < cLine
        omega
    have hfrD : ∀ q ∈ frs ((cPF P w K mg base f cd A outer L).env :: outer), q < L' := fun q hq => by
      rcases List.mem_cons.mp (show q ∈ L :: frs outer from hq) with z | z
      · rw [z]; exact hLL
      · exact Nat.lt_trans (ok.frlt q z) hLL
    have hfD : (A.deeper (cPF P w K mg base f cd A outer L).env).in1.in1.frames = some ((cPF P w K mg base f cd A outer L).env :: outer) := Around.frames_deeper ok.frames
    have hbD : base.objs.size ≤ L' := Nat.le_trans ok.bsz (Nat.le_of_lt hLL)
    have okD : (gPF P w K mg base f cd (A.deeper (cPF P w K mg base f cd A outer L).env).in1.in1 ((cPF P w K mg base f cd A outer L).env :: outer) L' s2.heap.objs.size s2.gens.size g').Ok :=
      ⟨okPF T.mod hr.hd hfD hbD hfrD, Nat.lt_trans z2 z3, by show g' < s2.gens.size; omega⟩
    have c : Child (gPF P w K mg base f cd A outer L n₀ gn g) (gPF P w K mg base f cd (A.deeper (cPF P w K mg base f cd A outer L).env).in1.in1 ((cPF P w K mg base f cd A outer L).env :: outer) L' s2.heap.objs.size s2.gens.size g') a' :=
      ⟨okD, rfl, rfl, rfl, rfl, hL'n, Nat.le_trans hsz kp2.sz, Nat.le_trans hgsz z4, Nat.le_trans hL'n (Nat.le_of_lt z2), z3, Nat.ne_of_gt z2⟩
    have hgd : lf.getD n 0 = lf[n] := by rw [List.getD_eq_getElem?_getD, hx]; rfl
    have F := ih (m - 1) (by omega) _ _ L' s2.heap.objs.size g' H2 s2 t' l' (st ++ [lf[n]]) (lf.take n ++ lf.drop (n + 1)) (by rw [List.length_append, List.length_take, List.length_drop]; omega)
      (by rw [List.length_append]; show st.length + 1 + (m - 1) ≤ 1000; omega) hAr hfD hbD hfrD (Nat.lt_trans z2 z3) (Nat.le_refl _) (by omega) (z9 _) q1 q2
    have hw := fut_iff.mp F H2 (s2.setGen g' .running) (Slp.self okD (z9 _)) (setGen_at z8)
    rw [hgd]
    have hov2 : A.over (yfc a') (.ret kk none (id false) lv' (.forLoop tgPF (.ref e) bdPF [] (cPF P w K mg base f cd A outer L).env) p [] :: fs) = (A.deeper (cPF P w K mg base f cd A outer L).env).in1 := by
      rw [over_cons, hov]
      exact Around.under_plainId Cf.plain_yf _
    have jp2 : JP t l e i st lf (n + 1) H2 s2 := jp_keep P w jp1 sm2 fun q hq o ho hn' hc' => by
      have hq' : q = e ∨ q = i := by simpa using hq
      have hL : L < q := by rcases hq' with z | z <;> rw [z] <;> assumption
      exact kp2.keep q o ho hn' (Nat.ne_of_gt hL) (fun hm => absurd (Nat.lt_trans (ok.frlt q hm) hL) (Nat.lt_irrefl _)) (by simp) hc'
    have he2 : e < s1.heap.objs.size := by obtain ⟨_, _, ⟨⟨_, q⟩, _⟩, _⟩ := jp1; exact Heap.lt_size q
    have hi2 : i < s1.heap.objs.size := by obtain ⟨_, _, ⟨_, ⟨_, q, _⟩, _⟩, _⟩ := jp1; exact Heap.lt_size q
    have ltL' : ∀ q ∈ [e, i], q < L' := fun q hq => by
      have hq' : q = e ∨ q = i := by simpa using hq
      rcases hq' with rfl | rfl
      · exact Nat.lt_of_lt_of_le he2 z1
      · exact Nat.lt_of_lt_of_le hi2 z1
    have geN : ∀ q ∈ [e, i], n₀ ≤ q := fun q hq => by
      have hq' : q = e ∨ q = i := by simpa using hq
      rcases hq' with rfl | rfl <;> assumption
    refine yf_all (Jv := fun H s => JP t l e i st lf (n + 1) H s ∧ n₀ ≤ s.heap.objs.size ∧ gn ≤ s.gens.size) c ok (fun H s H' s' j z => ⟨jp_keep P w j.1 z.same fun q hq o ho hn' hc' => ?_, Nat.le_trans j.2.1 z.sz, Nat.le_trans j.2.2 z.gsz⟩) (fun H s s' j k hgs => ?_)
      (fun H s H' s' j z => ⟨jp_keep P w j.1 z.same fun q hq o ho hn' hc' => z.keep q o (geN q hq) ho hn' hc', Nat.le_trans j.2.1 z.sz, Nat.le_trans j.2.2 z.gsz⟩) ?_ ?_ ?_ ?_ ?_ ?_ (fun Hw' sw' H' s' I' st' j' ob' => ?_) _ _ Hw sw H2 s2 I2 (st1.trans (Stp.of_kp I2 (by simp) kp2 sm2)) ⟨jp2, Nat.le_trans hsz kp2.sz, Nat.le_trans hgsz kp2.gens.sz⟩ z7 (genAt_of z6) z8 (fun k x hk hk2 hk3 e' => ?_) hw
    · refine z.keep q o ?_ (Nat.ne_of_lt (ltL' q hq)) ?_ ho hn' hc'
      · exact Nat.lt_trans (Nat.lt_of_lt_of_le (ltL' q hq) (Nat.le_of_lt z2)) z3
      · intro hm
        rcases List.mem_cons.mp (show q ∈ L :: frs outer from hm) with z' | z'
        · have := Nat.lt_of_lt_of_le ok.Ln (geN q hq); rw [z'] at this; exact absurd this (Nat.lt_irrefl _)
        · exact absurd (Nat.lt_of_lt_of_le (Nat.lt_trans (ok.frlt q z') ok.Ln) (geN q hq)) (Nat.lt_irrefl _)
    · have neA : ∀ q ∈ [e, i], q ≠ a' := fun q hq => Nat.ne_of_lt (Nat.lt_trans (ltL' q hq) z2)
      have j' : JP t l e i st lf (n + 1) H s' := jp_keep P w j.1 (Cf.Same.refl _) fun q hq o ho hn' hc' => ⟨k q o (neA q hq) ho, hn'⟩
      refine ⟨j', ?_, Nat.le_trans j.2.2 hgs⟩
      obtain ⟨_, _, ⟨⟨_, q⟩, _⟩, _⟩ := j'
      exact Nat.le_trans hen (Nat.le_of_lt (Heap.lt_size q))
    · show (splitAtGen fs).map _ = none
      rw [hfs]; rfl
    · show (id false || fs.any Frame.guarded) = false
      rw [hfg]; rfl
    · exact hn
    · rw [hov2]; exact Le.refl _
    · rw [hov2]; exact hr.hd
    · rw [hov2]; exact (hr.deeper (cPF P w K mg base f cd A outer L).env).depth
    · refine cf_leaf (.ok (.ret .none)) ?_
      rw [hkk]
      refine cf_nil ?_
      refine cf_again rfl ?_
      exact ihr (n + 1) (by omega) Hw' sw' H' s' _ _ I' st' j'.2.1 j'.2.2 j'.1 ob'
    · rcases kp2.gens.new k x e' with z | z
      · exact ob1 k x hk z
      · exact z
end
end Pf
end

section
set_option linter.all false
set_option maxRecDepth 100000
set_option maxHeartbeats 1000000
/-! places_from: the whole. -/
namespace Pf
open PySem PySem.Spec PyProof.Rows L2 Cf
theorem outsF_all (m : Nat) (st lf : List Int) : outsP (m + 1) st lf = outsF (m + 1) st lf 0 := rfl
section
variable {P : Program} {w : World} {K : PySem.W.Frag} {mg : Str → Option Value} {base : Heap} {f : Addr} {kV doc pm cd ct oc : Value} {an od : Option Addr} {osl : Array (Option Value)}
/-- from the for on -/
theorem pf_for (T : TxP K mg base f kV doc pm cd ct oc an od osl) {m : Nat} (ih : ∀ m', m' < m → FutP P w K mg base f cd m') {A : Around} {outer : List Env} {L n₀ gn g : Nat} (ok : (gPF P w K mg base f cd A outer L n₀ gn g).Ok) (hr : Room (m + 3) A)
    {t l : Addr} {st lf : List Int} (hlf : lf.length = m) (hst : st.length + m ≤ 1000) {Hh : Value → Sem PySem.Fin} {Hw : Hp} {sw : Shared} {H : Hp} {s : Shared} {a b : Option V} (I : BI (cPF P w K mg base f cd A outer L) [some (.ref t), some (.ref l), a, b] H s)
    (stp : Stp (gPF P w K mg base f cd A outer L n₀ gn g) Hw sw H s) (hz : n₀ ≤ s.heap.objs.size) (hgz : gn ≤ s.gens.size) (ht : H t = some (.tup (st.map V.int))) (hl : H l = some (.lst (lf.map V.int)))
    (hob : ∀ (i : Nat) (x : GenState), gn ≤ i → s.gens[i]? = some x → x.bare = true) :
    Conf (model P w) A (GRest (model P w) g (SB (gPF P w K mg base f cd A outer L n₀ gn g) (outsF m st lf 0) Hw sw) (SY (gPF P w K mg base f cd A outer L n₀ gn g) OutP (outsF m st lf 0) Hw sw)) (.func (defBody sPF) (cPF P w K mg base f cd A outer L).env)
      ((execs [fPF] (cPF P w K mg base f cd A outer L).env).wrap (fun f => .pure (.done (.ret (match f with | .ret v => v | _ => .none)))) Hh id id) [] s := by
  refine cf_cons (cf_For ?_ fun _ => rfl)
  rw [GenW.over_func]
  refine wpAny_mono (pf_iter ok.toOk I hl T.mE) (fun u s1 hq => ?_) fun _ _ z => z
  obtain ⟨e, i, rfl, σ1, H1, I1, ⟨rfl, rfl, he1, hi1, hen, hil, hei⟩, kp1⟩ := hq
  refine wpAny_pyIter_enum hen fun p lv' => ?_
  have st1 := stp.trans (Stp.of_kp I1 (by simp) kp1 (Cf.Same.refl _))
  have hj : JP t l e i st lf 0 H1 s1 := ⟨ht, hl, ⟨⟨_, hen⟩, hil, hei⟩, I.hok.fresh he1, I.hok.fresh hi1⟩
  refine pf_loop T ih ok hr hlf hst (Nat.le_trans hz he1) (Nat.le_trans hz hi1) rfl rfl rfl (by rw [GenW.over_loop rfl rfl, GenW.over_func]) (fun Hw' sw' H' s' a' b' I' st' ob' => ?_) m 0 (Nat.zero_add m) Hw sw H1 s1 a b I1 st1 (Nat.le_trans hz kp1.sz) (Nat.le_trans hgz kp1.gens.sz) hj
    fun k x hk e' => (kp1.gens.new k x e').elim (fun z => hob k x hk z) id
  refine cf_again rfl (cf_block ?_)
  refine cf_leaf (.ok .next) ?_
  exact cf_gen_end (.ok (.ret .none)) ⟨rfl, H', ⟨st', fun k x e' hk => ob' k x hk e'⟩⟩
theorem places_fut (T : TxP K mg base f kV doc pm cd ct oc an od osl) (m : Nat) : FutP P w K mg base f cd m := by
  induction m using Nat.strongRecOn with
  | ind m ih =>
    intro A outer L n g H s t l st lf hlf hst hr hfr hb hlt hLn hns hg I ht hl
    have ok : (gPF P w K mg base f cd A outer L n s.gens.size g).Ok := ⟨okPF T.mod hr.hd hfr hb hlt, hLn, hg⟩
    refine fut_iff.mpr fun H1 s1 slp run => ?_
    have I1 := I.slp ok.toOk slp
    have ob1 : ∀ (i : Nat) (x : GenState), s.gens.size ≤ i → s1.gens[i]? = some x → x.bare = true := fun i x hi e => (slp.gnew i x e).elim (fun z => by
      rw [Array.getElem?_eq_none hi] at z; cases z) id
    refine ⟨rfl, cf_func fun Hh => ?_⟩
    refine cf_cons (cf_If ?_)
    rw [GenW.over_func]
    refine wpAny_mono (pf_test (lf := lf) ok.toOk I1 (slp.same _ _ hl) (hr.deeper _)) (fun b' s2 hq => ?_) fun _ _ z => z
    obtain ⟨σ2, H2, I2, ⟨rfl, rfl, sm2⟩, kp2⟩ := hq
    have st2 := (Stp.self ok I1).trans (Stp.of_kp I2 (by simp) kp2 sm2)
    have ob2 : ∀ (i : Nat) (x : GenState), s.gens.size ≤ i → s2.gens[i]? = some x → x.bare = true := fun i x hi e => (kp2.gens.new i x e).elim (fun z => ob1 i x hi z) id
    have ht2 := sm2 _ _ (slp.same _ _ ht)
    have hl2 := sm2 _ _ (slp.same _ _ hl)
    have hz2 : n ≤ s2.heap.objs.size := Nat.le_trans hns (Nat.le_trans slp.sz kp2.sz)
    have hgz2 : s.gens.size ≤ s2.gens.size := Nat.le_trans slp.gsz kp2.gens.sz
    cases m with
    | zero =>
      have e0 : lf = [] := List.eq_nil_of_length_eq_zero hlf
      subst e0
      rw [if_pos (by decide)]
      refine cf_cons (cf_Yield rfl rfl rfl rfl rfl ?_)
      rw [GenW.over_func]
      refine wpAny_mono (run_plain (C := cPF P w K mg base f cd A outer L) ok.toOk I2 [] (Post := fun v σ' H' => v = .ref t ∧ σ' = [some (.ref t), some (.ref l), none, none] ∧ H' = H2) fun pins _ J => ?_) (fun v s3 hq => ?_) fun _ _ z => z
      · exact wpAny_mono ((show PE ((cPF P w K mg base f cd A outer L).cx H2 s2) _ (tVar 0) from pv 0).run pins _ _ H2 (fun v H' => v = .ref t ∧ H' = H2) J ⟨.ref t, rfl, rfl, rfl⟩)
          (fun v s' ⟨x, H', J', r, e1, e2⟩ => ⟨_, H', J', by subst e1; exact r, rfl, e2⟩) fun _ _ z => z
      · obtain ⟨σ3, H3, I3, ⟨rfl, rfl, rfl⟩, kp3⟩ := hq
        intro k' l' p' hk
        have st3 := st2.trans (Stp.of_kp I3 (by simp) kp3 (Cf.Same.refl _))
        have ob3 : ∀ (i : Nat) (x : GenState), s.gens.size ≤ i → s3.gens[i]? = some x → x.bare = true := fun i x hi e => (kp3.gens.new i x e).elim (fun z => ob2 i x hi z) id
        refine ⟨H3, st3, ⟨_, I3⟩, ⟨t, rfl, ht2⟩, rfl, fut_iff.mpr fun H4 s4 slp4 run4 => ?_⟩
        show Conf _ _ _ _ (k' (.send .none)) [] s4
        rw [hk]
        have I4 := I3.slp ok.toOk slp4
        refine cf_nil ?_
        exact pf_for T ih ok hr hlf hst I4 (Stp.self ok I4) (Nat.le_trans hz2 (Nat.le_trans kp3.sz slp4.sz)) (Nat.le_trans hgz2 (Nat.le_trans kp3.gens.sz slp4.gsz)) (slp4.same _ _ ht2) (slp4.same _ _ hl2)
          fun i x hi e => (slp4.gnew i x e).elim (fun z => ob3 i x hi z) id
    | succ m =>
      have e0 : lf ≠ [] := fun z => by rw [z] at hlf; cases hlf
      rw [decide_eq_false e0, if_neg Bool.false_ne_true]
      refine cf_nil ?_
      exact pf_for T ih ok hr hlf hst I2 st2 hz2 hgz2 ht2 hl2 ob2
end
end Pf
end

section
set_option linter.all false
set_option maxRecDepth 100000
set_option maxHeartbeats 1000000
/-! each_order: its plain parts. -/
namespace Pf
open PySem PySem.Spec PyProof.Rows L2 Cf
/-! ### the promises of what it calls -/
def beGo : Int → Int → List Int → List Int
  | _, _, [] => []
  | i, m, x :: r => (if max m x = i then [i + 1] else []) ++ beGo (i + 1) (max m x) r
/-- block_ends -/
def blockEnds (xs : List Int) : List Int := beGo 0 (-1) xs
def isW (xs : List Int) : Bool := decide ((blockEnds xs).length = 1)
def spRC : Sp := fun vs H Q _ => ∃ v lo hi : Int, vs = [.int v, .int lo, .int hi] ∧ lo ≤ v ∧ v ≤ hi ∧ -1000 ≤ v ∧ v ≤ 1000 ∧ ∀ H', Cf.Same H H' → Q .non H'
def spBE (K : PySem.W.Frag) : Sp := fun vs H Q _ => ∃ (a : Addr) (xs : List Int), vs = [.ref a] ∧ SqT K H a (xs.map V.int) ∧ xs.length ≤ 1000 ∧ ∀ H' p, Cf.Same H H' → H p = none → H' p = some (.lst ((blockEnds xs).map V.int)) → Q (.ref p) H'
/-- what is known of an order made of such places -/
abbrev OrdP := Hp → Addr → List Int → Prop
def spOP (Good : List Int → Prop) (IsO : OrdP) : Sp := fun vs H Q _ => ∃ (a : Addr) (xs : List Int), vs = [.ref a] ∧ H a = some (.tup (xs.map V.int)) ∧ Good xs ∧ ∀ H' p, Cf.Same H H' → IsO H' p xs → Q (.ref p) H'

abbrev sEO : Stmt := topS 27
abbrev NEO : List Str := ["many", "places"]
theorem gsEO : GScope NEO ["many"] (defScope sEO) := ⟨rfl, rfl, rfl, by decide +kernel, rfl, by decide +kernel, by decide +kernel⟩
theorem flEO : plainNames (defScope sEO) = true := by decide +kernel
abbrev eS0 : Stmt := (defBody sEO).getD 0 (.Pass ⟨0, 0, 0, 0⟩)
abbrev eFor : Stmt := (defBody sEO).getD 1 (.Pass ⟨0, 0, 0, 0⟩)
def fPos : Stmt → Pos
  | .For _ _ _ _ p => p
  | _ => ⟨0, 0, 0, 0⟩
abbrev tgEO : Expr := fTg eFor
abbrev itEO : Expr := fIt eFor
abbrev bdEO : List Stmt := fBody eFor
abbrev eIf : Stmt := bdEO.getD 0 (.Pass ⟨0, 0, 0, 0⟩)
abbrev tEO : Expr := tIf eIf
def ifB : Stmt → List Stmt
  | .If _ b _ _ => b
  | _ => []
def yE : Stmt → Expr
  | .Expr (.Yield (some e) _) _ => e
  | _ => .Constant .none 0 ⟨0, 0, 0, 0⟩
abbrev yEO : Expr := yE ((ifB eIf).getD 0 (.Pass ⟨0, 0, 0, 0⟩))
abbrev cEO (P : Program) (w : World) (K : PySem.W.Frag) (mg : Str → Option Value) (base : Heap) (f : Addr) (cd : Value) (A : Around) (outer : List Env) (L : Addr) : BC := ⟨P, w, K, mg, base, A, NEO, "each_order", defScope sEO, f, cd, outer, L⟩
section
variable {P : Program} {w : World} {K : PySem.W.Frag} {mg : Str → Option Value} {base : Heap} {f L : Addr} {A : Around} {outer : List Env} {cd : Value}
theorem okEO (hm : Mod K mg base) (hd : A.handled = none) (hf : A.frames = some outer) (hb : base.objs.size ≤ L) (hl : ∀ b ∈ frs outer, b < L) : (cEO P w K mg base f cd A outer L).Ok where
  mod := hm
  kind := rfl
  flat := fun x => by
    show (cellsFrom (L + 1) (defScope sEO).names []).lookup x = none
    rw [flat_aux _ _ flEO]; rfl
  nofc := fun x => nofc_of flEO x
  hd := hd
  frames := hf
  bsz := hb
  frlt := hl
/-- what each_order leans on -/
structure TxE (P : Program) (w : World) (K : PySem.W.Frag) (mg : Str → Option Value) (base : Heap) (Good : List Int → Prop) (IsO : OrdP) (kOP : Nat) : Prop where
  rc : ∃ (fa : Addr) (fd : FuncData) (k : Nat), k ≤ 3 ∧ FnOk P w K mg base CX0 k fa fd ["value", "least", "most"] spRC ∧ mg "require_count" = some (.ref fa) ∧ PySem.W.keepIn K (.ref fa) = true ∧ Binds K fd ["value", "least", "most"] []
  be : ∃ (fa : Addr) (fd : FuncData), FnOk P w K mg base CX0 1 fa fd ["places"] (spBE K) ∧ mg "block_ends" = some (.ref fa) ∧ PySem.W.keepIn K (.ref fa) = true ∧ Binds K fd ["places"] []
  op : ∃ (fa : Addr) (fd : FuncData), FnOk P w K mg base CX0 kOP fa fd ["places"] (spOP Good IsO) ∧ mg "order_of_places" = some (.ref fa) ∧ PySem.W.keepIn K (.ref fa) = true ∧ Binds K fd ["places"] []
  ml : ∃ t, mg "MAX_LISTED" = some (.int 7 t)
  mL : mg "list" = none
  mR : mg "range" = none
  mN : mg "len" = none
variable {σ : L2.St} {H : Hp} {s : Shared} {a : Option V} {Good : List Int → Prop} {IsO : OrdP} {kOP k : Nat} {n : Nat}
theorem eo_s0 (T : TxE P w K mg base Good IsO kOP) (ok : (cEO P w K mg base f cd A outer L).Ok) (I : BI (cEO P w K mg base f cd A outer L) [some (.int n), a] H s) (hn : 2 ≤ n) (hn7 : n ≤ 7) (hr : Room 3 (A.deeper (cEO P w K mg base f cd A outer L).env)) :
    wpAny (model P w) (A.deeper (cEO P w K mg base f cd A outer L).env) (exec eS0 (cEO P w K mg base f cd A outer L).env)
      (fun r s' => ∃ σ' H', BI (cEO P w K mg base f cd A outer L) σ' H' s' ∧ (r = .next ∧ σ' = [some (.int n), a] ∧ Cf.Same H H') ∧ Kp (cEO P w K mg base f cd A outer L) [] H s H' s') NoX s := by
  obtain ⟨fa, fd, kk, hk3, F, hg, hk, hb⟩ := T.rc
  obtain ⟨tk, hml⟩ := T.ml
  refine run_plain (C := cEO P w K mg base f cd A outer L) ok I [] (Post := fun (r : Flow) σ' H' => r = Flow.next ∧ σ' = [some (.int n), a] ∧ Cf.Same H H') fun pins _ J => ?_
  have S1 : PS ((cEO P w K mg base f cd A outer L).cx H s) eS0 _ := ps_expr (pe_call F (hr.mono hk3) (by rfl) hg hk hb .nil pass0 (pa_cons (pv 0) (pa_cons pe_int (pa_cons (pe_glob (v := .int 7) rfl hml ⟨_, rfl⟩) pa_nil))))
  refine wpAny_mono (S1.run pins _ _ H { nx := fun σ' H' => σ' = [some (.int n), a] ∧ Cf.Same H H', rt := fun _ _ => False } J ?_) (fun r s' hq => ?_) fun _ _ z => z
  · exact ⟨.int n, rfl, n, 2, 7, rfl, by omega, by omega, by omega, by omega, fun H' sm => ⟨rfl, sm⟩⟩
  · cases r with
    | next => obtain ⟨σ', H', J', h1, h2⟩ := hq; exact ⟨σ', H', J', rfl, h1, h2⟩
    | ret u => obtain ⟨_, _, _, _, _, z⟩ := hq; exact z.elim
    | brk => obtain ⟨_, _, _, z⟩ := hq; exact z.elim
    | cont => obtain ⟨_, _, _, z⟩ := hq; exact z.elim
/-- the range's list -/
def rangeI (n : Nat) : List Int := (List.range n).map fun (i : Nat) => (i : Int)
theorem rgV_range (n : Nat) : rgV 0 (n : Int) = (rangeI n).map V.int := by
  unfold rgV rangeI
  rw [Int.sub_zero, Int.toNat_natCast, List.map_map]
  refine List.map_congr_left fun i _ => ?_
  show V.int (0 + (i : Int)) = V.int (i : Int)
  rw [Int.zero_add]
theorem eo_made {fP : Addr} {kV doc pm cdP ct oc : Value} {an od : Option Addr} {osl : Array (Option Value)} (TP : TxP K mg base fP kV doc pm cdP ct oc an od osl) (T : TxE P w K mg base Good IsO kOP) (ok : (cEO P w K mg base f cd A outer L).Ok)
    (I : BI (cEO P w K mg base f cd A outer L) [some (.int n), a] H s) (hn7 : n ≤ 7) (hr : Room k (A.deeper (cEO P w K mg base f cd A outer L).env)) :
    wpAny (model P w) (A.deeper (cEO P w K mg base f cd A outer L).env) (eval itEO (cEO P w K mg base f cd A outer L).env)
      (fun u s' => ∃ t' l' H' a' L' g, u = .ref a' ∧ BI (cEO P w K mg base f cd A outer L) [some (.int n), a] H' s' ∧ Kp (cEO P w K mg base f cd A outer L) [] H s H' s' ∧
        (H' t' = some (.tup (([] : List Int).map V.int)) ∧ H' l' = some (.lst ((rangeI n).map V.int)) ∧ Cf.Same H H') ∧
        s.heap.objs.size ≤ L' ∧ L' < a' ∧ a' < s'.heap.objs.size ∧ s.gens.size ≤ g ∧ s'.gens.size = g + 1 ∧ s'.heap.IsGen a' g ∧ H' a' = none ∧ s'.gens[g]? = some (.fresh (.func (defBody sPF) (envOfC "places_from" (defScope sPF) L' fP cdP))) ∧
        ∀ A', BI (cPF P w K mg base fP cdP A' ((cEO P w K mg base f cd A outer L).env :: outer) L') (start NPF [.ref t', .ref l']) H' s') NoX s := by
  have T1 : PA ((cEO P w K mg base f cd A outer L).cx H s) [cArg 0 itEO, cArg 1 itEO] _ := pa_cons (pe_tup pa_nil) (pa_cons (pe_listRg rfl (by rfl) T.mL (prg_1 (by rfl) T.mR (pv 0))) pa_nil)
  refine wpAny_mono (eval_made (C := cEO P w K mg base f cd A outer L) (N := NPF) (d := dOf "places_from" sPF kV doc pm cdP ct oc an od osl) (Qa := fun vs H1 => ∃ t' l', vs = [.ref t', .ref l'] ∧ H1 t' = some (.tup (([] : List Int).map V.int)) ∧ H1 l' = some (.lst ((rangeI n).map V.int)) ∧ Cf.Same H H1) ok I TP.lk TP.hcd gsPF hr (by rfl) TP.hm TP.hk TP.hb T1 ?_)
    (fun u s' hq => ?_) fun _ _ z => z
  · refine ⟨Nat.zero_le _, fun t' nt => ⟨.int n, rfl, n, rfl, RgOk.of_le (by omega) (by omega) (by omega) (by omega), fun l' nl => ⟨rfl, t', l', rfl, ?_, ?_, (same_upd nt).trans (same_upd nl)⟩⟩⟩
    · exact same_upd nl _ _ upd_same
    · rw [upd_same, rgV_range]
  · obtain ⟨vs, H', a', L', g, e1, I', kp, ⟨t', l', rfl, q1, q2, q3⟩, z1, z2, z3, z4, z5, z6, z7, z8, z9⟩ := hq
    exact ⟨t', l', H', a', L', g, e1, I', kp, ⟨q1, q2, q3⟩, z1, z2, z3, z4, z5, z6, z7, z8, z9⟩
/-- the item is stored -/
theorem eo_asg {p : Addr} (ok : (cEO P w K mg base f cd A outer L).Ok) (I : BI (cEO P w K mg base f cd A outer L) [some (.int n), a] H s) {it : Value} :
    wpAny (model P w) (A.deeper (cEO P w K mg base f cd A outer L).env) (letOwnedTupleGo tgEO it (.ref p) >>= fun _ => assign tgEO (cEO P w K mg base f cd A outer L).env (.ref p))
      (fun _ s' => ∃ σ' H', BI (cEO P w K mg base f cd A outer L) σ' H' s' ∧ (σ' = [some (.int n), some (.ref p)] ∧ H' = H) ∧ Kp (cEO P w K mg base f cd A outer L) [] H s H' s') NoX s := by
  refine run_plain (C := cEO P w K mg base f cd A outer L) ok I [] (Post := fun _ σ' H' => σ' = [some (.int n), some (.ref p)] ∧ H' = H) fun pins _ J => ?_
  have G1 : PG ((cEO P w K mg base f cd A outer L).cx H s) tgEO _ := pg_name (i := 1) gsEO.nd rfl (.inl rfl)
  refine wpAny_bind (wpAny_pure ?_)
  exact wpAny_mono (G1.run pins _ _ H (.ref p) (.ref p) (fun σ' H' => σ' = [some (.int n), some (.ref p)] ∧ H' = H) J rfl ⟨rfl, rfl⟩) (fun _ s' ⟨σ', H', J', h⟩ => ⟨σ', H', J', h⟩) fun _ _ z => z
/-- is it whole? -/
theorem eo_test {p : Addr} {xs : List Int} (T : TxE P w K mg base Good IsO kOP) (ok : (cEO P w K mg base f cd A outer L).Ok) (I : BI (cEO P w K mg base f cd A outer L) [some (.int n), some (.ref p)] H s) (hp : H p = some (.tup (xs.map V.int))) (hx : xs.length ≤ 1000)
    (hr : Room 3 (A.deeper (cEO P w K mg base f cd A outer L).env)) :
    wpAny (model P w) (A.deeper (cEO P w K mg base f cd A outer L).env) (isTrue tEO (cEO P w K mg base f cd A outer L).env (eval tEO (cEO P w K mg base f cd A outer L).env))
      (fun r s' => ∃ σ' H', BI (cEO P w K mg base f cd A outer L) σ' H' s' ∧ (σ' = [some (.int n), some (.ref p)] ∧ r = isW xs ∧ Cf.Same H H') ∧ Kp (cEO P w K mg base f cd A outer L) [] H s H' s') NoX s := by
  obtain ⟨fa, fd, F, hg, hk, hb⟩ := T.be
  refine run_plain (C := cEO P w K mg base f cd A outer L) ok I [] (Post := fun r σ' H' => σ' = [some (.int n), some (.ref p)] ∧ r = isW xs ∧ Cf.Same H H') fun pins _ J => ?_
  have T1 : PT ((cEO P w K mg base f cd A outer L).cx H s) tEO _ := pt_cmpR op_eq (pe_callB call_len_seq (by rfl) T.mN PySem.boot_len (pa_cons (pe_call F (hr.mono (by decide)) (by rfl) hg hk hb .nil pass0 (pa_cons (pv 1) pa_nil)) pa_nil)) pe_int (nomark _)
  refine wpAny_mono (T1.run pins _ _ H (fun r H' => r = isW xs ∧ Cf.Same H H') J ?_) (fun r s' ⟨H', J', h1, h2⟩ => ⟨_, H', J', rfl, h1, h2⟩) fun _ _ z => z
  refine ⟨.ref p, rfl, p, xs, rfl, .inl (.inl hp), hx, fun H' q sm nq eq => ?_⟩
  refine ⟨q, (blockEnds xs).map V.int, rfl, .inl (.inl (.inl eq)), rfl, _, rfl, ?_, sm⟩
  unfold isW
  rw [List.length_map]
  by_cases e : (blockEnds xs).length = 1
  · rw [e]; rfl
  · rw [decide_eq_false e]
    refine decide_eq_false fun z => e ?_
    have := V.int.inj z
    omega
/-- the order is made -/
theorem eo_order {p : Addr} {xs : List Int} (T : TxE P w K mg base Good IsO kOP) (ok : (cEO P w K mg base f cd A outer L).Ok) (I : BI (cEO P w K mg base f cd A outer L) [some (.int n), some (.ref p)] H s) (hp : H p = some (.tup (xs.map V.int))) (hx : Good xs)
    (hr : Room kOP (A.deeper (cEO P w K mg base f cd A outer L).env)) :
    wpAny (model P w) (A.deeper (cEO P w K mg base f cd A outer L).env) (eval yEO (cEO P w K mg base f cd A outer L).env)
      (fun u s' => ∃ σ' H', BI (cEO P w K mg base f cd A outer L) σ' H' s' ∧ (∃ q, u = .ref q ∧ σ' = [some (.int n), some (.ref p)] ∧ IsO H' q xs ∧ Cf.Same H H') ∧ Kp (cEO P w K mg base f cd A outer L) [] H s H' s') NoX s := by
  obtain ⟨fa, fd, F, hg, hk, hb⟩ := T.op
  refine run_plain (C := cEO P w K mg base f cd A outer L) ok I [] (Post := fun (u : Value) σ' H' => ∃ q, u = .ref q ∧ σ' = [some (.int n), some (.ref p)] ∧ IsO H' q xs ∧ Cf.Same H H') fun pins _ J => ?_
  have T1 : PE ((cEO P w K mg base f cd A outer L).cx H s) yEO _ := pe_call F hr (by rfl) hg hk hb .nil pass0 (pa_cons (pv 1) pa_nil)
  refine wpAny_mono (T1.run pins _ _ H (fun u H' => ∃ q, u = .ref q ∧ IsO H' q xs ∧ Cf.Same H H') J ?_) (fun u s' ⟨v, H', J', rv, q, e1, h1, h2⟩ => ⟨_, H', J', q, ?_, rfl, h1, h2⟩) fun _ _ z => z
  · exact ⟨.ref p, rfl, p, xs, rfl, hp, hx, fun H' q sm iso => ⟨q, rfl, iso, sm⟩⟩
  · subst e1; exact rv
end
end Pf
end

section
set_option linter.all false
set_option maxRecDepth 100000
set_option maxHeartbeats 1000000
/-! each_order: what it hands out. -/
namespace Pf
open PySem PySem.Spec PyProof.Rows L2 Cf
def OutE (IsO : OrdP) (t : List Int) (v : Value) (H : Hp) : Prop := ∃ q, v = .ref q ∧ IsO H q t
abbrev gEO (P : Program) (w : World) (K : PySem.W.Frag) (mg : Str → Option Value) (base : Heap) (f : Addr) (cd : Value) (A : Around) (outer : List Env) (L n gn g : Nat) : Gn := ⟨cEO P w K mg base f cd A outer L, n, gn, g⟩
section
variable {P : Program} {w : World} {K : PySem.W.Frag} {mg : Str → Option Value} {base : Heap} {f : Addr} {A : Around} {outer : List Env} {cd : Value} {Good : List Int → Prop} {IsO : OrdP} {kOP : Nat}
theorem stp_set {C : Gn} {σ : L2.St} {Hw : Hp} {sw : Shared} {H : Hp} {s : Shared} (ok : C.Ok) (I : BI C.toBC σ H s) (st : Stp C Hw sw H s) {i : Nat} {x : GenState} (hi : C.gn ≤ i) : Stp C Hw sw H (s.setGen i x) :=
  st.trans (Stp.raw ok I rfl (fun _ _ _ e => e) I.hok (Nat.le_refl _) (Nat.le_of_eq (GenW.setGen_size _ _ _).symm) fun k hk => by rw [setGen_eq, if_neg (by omega)])
theorem bi_set {C : BC} {σ : L2.St} {H : Hp} {s : Shared} (I : BI C σ H s) {i : Nat} {x : GenState} : BI C σ H (s.setGen i x) := ⟨I.bs, I.funs, I.frf, I.loc, I.free, I.hok, I.len⟩
theorem eo_loop (T : TxE P w K mg base Good IsO kOP) {L n₀ gn g : Nat} (ok : (gEO P w K mg base f cd A outer L n₀ gn g).Ok) (hr : Room (kOP + 4) A) {n : Nat} {D : Gn} {a : Addr} (c : Child (gEO P w K mg base f cd A outer L n₀ gn g) D a) {fs : List Frame}
    (hfs : splitAtGen fs = none) (hfg : fs.any Frame.guarded = false) (hn : NoH fs = true)
    (hov : A.over (.forLoop tgEO (.ref a) bdEO [] (cEO P w K mg base f cd A outer L).env) fs = A.deeper (cEO P w K mg base f cd A outer L).env) (hl : Le (A.deeper (cEO P w K mg base f cd A outer L).env).in1 D.A)
    (fin : ∀ Hw sw H s av, BI (cEO P w K mg base f cd A outer L) [some (.int n), av] H s → Stp (gEO P w K mg base f cd A outer L n₀ gn g) Hw sw H s → (∀ (i : Nat) (x : GenState), gn ≤ i → s.gens[i]? = some x → x.bare = true) →
      Conf (model P w) A (GRest (model P w) g (SB (τ := List Int) (gEO P w K mg base f cd A outer L n₀ gn g) [] Hw sw) (SY (gEO P w K mg base f cd A outer L n₀ gn g) (OutE IsO) [] Hw sw)) (.forLoop tgEO (.ref a) bdEO [] (cEO P w K mg base f cd A outer L).env) (.pure (.again (.block [] (cEO P w K mg base f cd A outer L).env))) fs s) :
    ∀ (ts : List (List Int)) (x : GenState) (Hw : Hp) (sw : Shared) (H : Hp) (s : Shared) (av : Option V), BI (cEO P w K mg base f cd A outer L) [some (.int n), av] H s → Stp (gEO P w K mg base f cd A outer L n₀ gn g) Hw sw H s → H a = none → GenAt s.heap a D.g → s.gens[D.g]? = some x →
      (∀ (i : Nat) (y : GenState), gn ≤ i → i < D.gn → i ≠ D.g → s.gens[i]? = some y → y.bare = true) → (∀ t ∈ ts, Good t ∧ t.length ≤ 1000) →
      Wake (model P w) D.A D.g x (.send .none) (s.setGen D.g .running) (SB D ts H (s.setGen D.g .running)) (SY D OutP ts H (s.setGen D.g .running)) →
      Conf (model P w) A (GRest (model P w) g (SB (gEO P w K mg base f cd A outer L n₀ gn g) (ts.filter isW) Hw sw) (SY (gEO P w K mg base f cd A outer L n₀ gn g) (OutE IsO) (ts.filter isW) Hw sw)) (.forLoop tgEO (.ref a) bdEO [] (cEO P w K mg base f cd A outer L).env)
        ((model P w).den (.forLoop tgEO (.ref a) bdEO [] (cEO P w K mg base f cd A outer L).env)) fs s := by
  intro ts
  induction ts with
  | nil =>
    intro x Hw sw H s av I st hna hg hx hob hts hw
    have hlim : s.heap.NoLimit := ok.mod.nolimit.keeps fun b o e => (I.bs b o e).1
    refine cf_turnC fun H₁ H₂ => cf_pyNext hn hg hx hw (by rw [hov]; exact hl) (by rw [hov]; exact hr.hd) hlim (by rw [hov]; exact (hr.deeper (cEO P w K mg base f cd A outer L).env).depth) (fun r s' hb => hb.1) (fun v s₁ y hy => hy.elim) fun s₁ h' hb hk => ?_
    obtain ⟨_, H1, fn⟩ := hb
    have I1 : BI (cEO P w K mg base f cd A outer L) [some (.int n), av] H1 s₁ := c.bi ok (bi_set I) fn.toStp
    have hok' : HOk P w H1 h' := I1.hok.kept hk.1
    have I2 : BI (cEO P w K mg base f cd A outer L) [some (.int n), av] H1 { s₁.setGen D.g .finished with heap := h' } := I1.raw (C := gEO P w K mg base f cd A outer L n₀ gn g) ok (fun b o _ e => hk.1 b o e) hok'
    have st1 : Stp (gEO P w K mg base f cd A outer L n₀ gn g) Hw sw H1 s₁ := (stp_set ok I st c.cg).trans (c.stp fn.toStp)
    have hgr : s₁.gens[D.g]? = some .running := fn.gold D.g .running c.ok.ggn (setGen_at hx) rfl
    have st2 : Stp (gEO P w K mg base f cd A outer L n₀ gn g) Hw sw H1 { s₁.setGen D.g .finished with heap := h' } := st1.trans (Stp.raw ok I1 rfl (fun b o _ e => hk.1 b o e) hok' hk.2 (Nat.le_of_eq (GenW.setGen_size s₁ D.g _).symm)
      fun i hi => by show (s₁.setGen D.g _).gens[i]? = _; rw [setGen_eq, if_neg (by have := c.cg; omega)])
    refine fin Hw sw H1 _ av I2 st2 fun i w hi e => ?_
    have e' : (s₁.setGen D.g .finished).gens[i]? = some w := e
    by_cases hig : i = D.g
    · subst hig
      rw [setGen_at hgr] at e'
      cases e'; rfl
    · rw [setGen_eq, if_neg hig] at e'
      by_cases hb : D.gn ≤ i
      · exact fn.fin i w e' hb
      · rcases fn.gnew i w e' with r | r | r
        · rw [setGen_eq, if_neg hig] at r
          exact hob i w hi (by omega) hig r
        · exact r
        · exact absurd r hb
  | cons t ts ih =>
    intro x Hw sw H s av I st hna hg hx hob hts hw
    have hlim : s.heap.NoLimit := ok.mod.nolimit.keeps fun b o e => (I.bs b o e).1
    refine cf_turnC fun H₁ H₂ => cf_pyNext hn hg hx hw (by rw [hov]; exact hl) (by rw [hov]; exact hr.hd) hlim (by rw [hov]; exact (hr.deeper (cEO P w K mg base f cd A outer L).env).depth) (fun r s' hb => hb.elim) (fun v s₁ y hy => ?_) fun s₁ h' hb hk => hb.elim
    obtain ⟨H1, stc, ⟨ρ, J⟩, ⟨p, rfl, hp⟩, hi, hf⟩ := hy
    obtain ⟨hgood, hlen⟩ := hts t List.mem_cons_self
    obtain ⟨o, nm, qn, hoa, hc, hd, hsl⟩ := id hg
    obtain ⟨e1, n1⟩ := stc.keep a o c.an c.aL (c.aout ok) hoa hna (fun v q => by rw [hd] at q; cases q)
    have I1 : BI (cEO P w K mg base f cd A outer L) [some (.int n), av] H1 s₁ := c.bi ok (bi_set I) stc
    have st1 : Stp (gEO P w K mg base f cd A outer L n₀ gn g) Hw sw H1 s₁ := (stp_set ok I st c.cg).trans (c.stp stc)
    have hgr : s₁.gens[D.g]? = some .running := stc.gold D.g .running c.ok.ggn (setGen_at hx) rfl
    have hgy : (s₁.setGen D.g y).gens[D.g]? = some y := setGen_at hgr
    have st2 : Stp (gEO P w K mg base f cd A outer L n₀ gn g) Hw sw H1 (s₁.setGen D.g y) := stp_set ok I1 st1 c.cg
    have ob2 : ∀ (i : Nat) (w : GenState), gn ≤ i → i < D.gn → i ≠ D.g → (s₁.setGen D.g y).gens[i]? = some w → w.bare = true := fun i w h1 h2 h3 e => by
      rw [setGen_eq, if_neg h3] at e
      rcases stc.gnew i w e with r | r | r
      · rw [setGen_eq, if_neg h3] at r
        exact hob i w h1 h2 h3 r
      · exact r
      · omega
    -- behind it all
    have next : ∀ Hw' sw' H' s' av', BI (cEO P w K mg base f cd A outer L) [some (.int n), av'] H' s' → Stp (gEO P w K mg base f cd A outer L n₀ gn g) Hw' sw' H' s' → Kee (gEO P w K mg base f cd A outer L n₀ gn g) H1 (s₁.setGen D.g y) H' s' →
        Conf (model P w) A (GRest (model P w) g (SB (gEO P w K mg base f cd A outer L n₀ gn g) (ts.filter isW) Hw' sw') (SY (gEO P w K mg base f cd A outer L n₀ gn g) (OutE IsO) (ts.filter isW) Hw' sw')) (.forLoop tgEO (.ref a) bdEO [] (cEO P w K mg base f cd A outer L).env)
          (.pure (.again (.forLoop tgEO (.ref a) bdEO [] (cEO P w K mg base f cd A outer L).env))) fs s' := fun Hw' sw' H' s' av' I' st' ke => by
      have gy : s'.gens[D.g]? = some y := ke.gold D.g y c.cg hgy hi
      have q := fut_iff.mp hf H' _ (slp_of_kee c ok J I' ke) (setGen_at gy)
      rw [c.M] at q
      obtain ⟨e2, n2⟩ := ke.keep a o c.ca e1 n1 (fun v q => by rw [hd] at q; cases q)
      refine cf_again rfl (ih y Hw' sw' H' s' av' I' st' n2 ⟨o, nm, qn, e2, hc, hd, hsl⟩ gy (fun i w h1 h2 h3 e => ?_) (fun t ht => hts t (List.mem_cons_of_mem _ ht)) q)
      rcases ke.gnew i w e with r | r
      · exact ob2 i w h1 h2 h3 r
      · exact r
    simp only [wbind_eq]
    refine cf_two (m := letOwnedTupleGo tgEO (.ref a) (.ref p)) (f := fun _ => assign tgEO (cEO P w K mg base f cd A outer L).env (.ref p)) ?_
    rw [hov]
    refine wpAny_mono (eo_asg ok.toOk (bi_set I1)) (fun _ s3 hq => ?_) fun _ _ z => z
    obtain ⟨σ3, H3, I3, ⟨rfl, rfl⟩, kp3⟩ := hq
    have st3 := st2.trans (Stp.of_kp I3 (by simp) kp3 (Cf.Same.refl _))
    have ke3 : Kee (gEO P w K mg base f cd A outer L n₀ gn g) H3 (s₁.setGen D.g y) H3 s3 := Kee.of_kp ok kp3 (Cf.Same.refl _)
    refine cf_cons (cf_If ?_)
    rw [hov]
    refine wpAny_mono (eo_test T ok.toOk I3 hp hlen ((hr.deeper _).mono (by omega))) (fun b s4 hq => ?_) fun _ _ z => z
    obtain ⟨σ4, H4, I4, ⟨rfl, rfl, sm4⟩, kp4⟩ := hq
    have st4 := st3.trans (Stp.of_kp I4 (by simp) kp4 sm4)
    have ke4 := ke3.trans (Kee.of_kp ok kp4 sm4)
    cases hW : isW t with
    | false =>
      rw [if_neg Bool.false_ne_true, List.filter_cons_of_neg (by rw [hW]; exact Bool.false_ne_true)]
      exact next Hw sw H4 s4 _ I4 st4 ke4
    | true =>
      rw [if_pos rfl, List.filter_cons_of_pos hW]
      refine cf_cons (cf_Yield hfs rfl hfg rfl rfl ?_)
      rw [hov]
      refine wpAny_mono (eo_order T ok.toOk I4 (sm4 _ _ hp) hgood ((hr.deeper _).mono (by omega))) (fun v s5 hq => ?_) fun _ _ z => z
      obtain ⟨σ5, H5, I5, ⟨q, rfl, rfl, iso, sm5⟩, kp5⟩ := hq
      intro k' l' p' hk
      have st5 := st4.trans (Stp.of_kp I5 (by simp) kp5 sm5)
      have ke5 := ke4.trans (Kee.of_kp ok kp5 sm5)
      refine ⟨H5, st5, ⟨_, I5⟩, ⟨q, rfl, iso⟩, rfl, fut_iff.mpr fun H6 s6 slp6 run6 => ?_⟩
      show Conf _ _ _ _ (k' (.send .none)) fs s6
      rw [hk]
      have I6 := I5.slp ok.toOk slp6
      exact next H6 s6 H6 s6 _ I6 (Stp.self ok I6) (ke5.trans (Kee.of_slp slp6))
end
end Pf
end

section
set_option linter.all false
set_option maxRecDepth 100000
set_option maxHeartbeats 1000000
/-! each_order: the whole. -/
namespace Pf
open PySem PySem.Spec PyProof.Rows L2 Cf
section
variable {P : Program} {w : World} {K : PySem.W.Frag} {mg : Str → Option Value} {base : Heap} {f : Addr} {A : Around} {outer : List Env} {cd : Value} {Good : List Int → Prop} {IsO : OrdP} {kOP : Nat}
variable {fP : Addr} {kV doc pm cdP ct oc : Value} {an od : Option Addr} {osl : Array (Option Value)}
def ordersOf (n : Nat) : List (List Int) := (outsP n [] (rangeI n)).filter isW
theorem eo_fut (TP : TxP K mg base fP kV doc pm cdP ct oc an od osl) (T : TxE P w K mg base Good IsO kOP) {L n₀ g : Nat} {H : Hp} {s : Shared} {n : Nat} (h2 : 2 ≤ n) (h7 : n ≤ 7) (hgood : ∀ t ∈ outsP n [] (rangeI n), Good t ∧ t.length ≤ 1000)
    (hr : Room (kOP + 20) A) (hfr : A.frames = some outer) (hb : base.objs.size ≤ L) (hlt : ∀ b ∈ frs outer, b < L) (hLn : L < n₀) (hns : n₀ ≤ s.heap.objs.size) (hg : g < s.gens.size) (I : BI (cEO P w K mg base f cd A outer L) (start NEO [.int n]) H s) :
    Fut (gEO P w K mg base f cd A outer L n₀ s.gens.size g) (OutE IsO) (ordersOf n) (.fresh (.func (defBody sEO) (cEO P w K mg base f cd A outer L).env)) H s := by
  have ok : (gEO P w K mg base f cd A outer L n₀ s.gens.size g).Ok := ⟨okEO TP.mod hr.hd hfr hb hlt, hLn, hg⟩
  have hr4 : Room (kOP + 4) A := hr.mono (by omega)
  refine fut_iff.mpr fun H1 s1 slp run => ?_
  have I1 := I.slp ok.toOk slp
  have ob1 : ∀ (i : Nat) (x : GenState), s.gens.size ≤ i → s1.gens[i]? = some x → x.bare = true := fun i x hi e => (slp.gnew i x e).elim (fun z => by
    rw [Array.getElem?_eq_none hi] at z; cases z) id
  refine ⟨rfl, cf_func fun Hh => ?_⟩
  refine cf_cons (cf_wrapN ?_)
  rw [GenW.over_func]
  refine wpAny_mono (eo_s0 T ok.toOk I1 h2 h7 ((hr4.deeper _).mono (by omega))) (fun r s2 hq => ?_) fun _ _ z => z
  obtain ⟨σ2, H2, I2, ⟨rfl, rfl, sm2⟩, kp2⟩ := hq
  have st2 := (Stp.self ok I1).trans (Stp.of_kp I2 (by simp) kp2 sm2)
  refine cf_cons (cf_For ?_ fun _ => rfl)
  rw [GenW.over_func]
  refine wpAny_mono (eo_made TP T ok.toOk I2 h7 (hr4.deeper _)) (fun u s3 hq => ?_) fun _ _ z => z
  obtain ⟨t', l', H3, a', L', g', rfl, I3, kp3, ⟨q1, q2, sm3⟩, z1, z2, z3, z4, z5, z6, z7, z8, z9⟩ := hq
  refine wpAny_pyIter_gen z6 fun p lv' => ?_
  have st3 := st2.trans (Stp.of_kp I3 (by simp) kp3 sm3)
  have hsz : n₀ ≤ s2.heap.objs.size := Nat.le_trans hns (Nat.le_trans slp.sz kp2.sz)
  have hgsz : s.gens.size ≤ s2.gens.size := Nat.le_trans slp.gsz kp2.gens.sz
  have hL'n : n₀ ≤ L' := Nat.le_trans hsz z1
  have hLL : L < L' := Nat.lt_of_lt_of_le ok.Ln hL'n
  have hAr : Room (n + 3) (A.deeper (cEO P w K mg base f cd A outer L).env).in1 := by
    refine ⟨hr.hd, ?_, ?_⟩
    · have := hr.dp
      show A.depth + 1 + 3 * (n + 3) + 5 < recursionLimit
      omega
    · have := hr.un
      show A.units + 3 + 1 + 16 * (n + 3) + 200 < cLine
      omega
  have hfrD : ∀ q ∈ frs ((cEO P w K mg base f cd A outer L).env :: outer), q < L' := fun q hq => by
    rcases List.mem_cons.mp (show q ∈ L :: frs outer from hq) with z | z
    · rw [z]; exact hLL
    · exact Nat.lt_trans (ok.frlt q z) hLL
  have hfD : (A.deeper (cEO P w K mg base f cd A outer L).env).in1.frames = some ((cEO P w K mg base f cd A outer L).env :: outer) := Around.frames_deeper ok.frames
  have hbD : base.objs.size ≤ L' := Nat.le_trans ok.bsz (Nat.le_of_lt hLL)
  have okD : (gPF P w K mg base fP cdP (A.deeper (cEO P w K mg base f cd A outer L).env).in1 ((cEO P w K mg base f cd A outer L).env :: outer) L' s3.heap.objs.size s3.gens.size g').Ok :=
    ⟨okPF TP.mod hr.hd hfD hbD hfrD, Nat.lt_trans z2 z3, by show g' < s3.gens.size; omega⟩
  have c : Child (gEO P w K mg base f cd A outer L n₀ s.gens.size g) (gPF P w K mg base fP cdP (A.deeper (cEO P w K mg base f cd A outer L).env).in1 ((cEO P w K mg base f cd A outer L).env :: outer) L' s3.heap.objs.size s3.gens.size g') a' :=
    ⟨okD, rfl, rfl, rfl, rfl, hL'n, Nat.le_trans hsz kp3.sz, Nat.le_trans hgsz z4, Nat.le_trans hL'n (Nat.le_of_lt z2), z3, Nat.ne_of_gt z2⟩
  have hrl : (rangeI n).length = n := by unfold rangeI; rw [List.length_map, List.length_range]
  have F := places_fut (P := P) (w := w) TP n _ _ L' s3.heap.objs.size g' H3 s3 t' l' [] (rangeI n) hrl (by show 0 + n ≤ 1000; omega) hAr hfD hbD hfrD (Nat.lt_trans z2 z3) (Nat.le_refl _) (by omega) (z9 _) q1 q2
  have hw := fut_iff.mp F H3 (s3.setGen g' .running) (Slp.self okD (z9 _)) (setGen_at z8)
  refine eo_loop T ok hr4 (n := n) c rfl rfl rfl (by rw [GenW.over_loop rfl rfl, GenW.over_func]) (Le.refl _) (fun Hw sw H' s' av I' st' ob' => ?_) _ _ H1 s1 H3 s3 none I3 st3 z7 (genAt_of z6) z8 (fun i x h1 _ _ e => ?_) hgood hw
  · refine cf_again rfl (cf_block ?_)
    refine cf_leaf (.ok .next) ?_
    exact cf_gen_end (.ok (.ret .none)) ⟨rfl, H', ⟨st', fun k x e' hk => ob' k x hk e'⟩⟩
  · rcases kp3.gens.new i x e with z | z
    · rcases kp2.gens.new i x z with z' | z'
      · exact ob1 i x h1 z'
      · exact z'
    · exact z
end
end Pf
end

section
set_option linter.all false
set_option maxRecDepth 100000
set_option maxHeartbeats 1000000
/-! list(g) in a body. -/
namespace Pf
open PySem PySem.Spec PyProof.Rows L2 Cf
section
variable {C : BC} {σ : L2.St} {H : Hp} {s : Shared}
theorem cf_listG (ok : C.Ok) {c : Code} {fs : List Frame} (hov : C.A.over c fs = C.A.deeper C.env) (hnf : NoH fs = true) {R : Rest} (I : BI C σ H s) {arg : Expr} {p pos : Pos} (hgl : C.env.kindOf "list" = some .globalImplicit) (mL : C.mg "list" = none)
    {K : Value → Sem PySem.Fin} {Hh : Value → Sem PySem.Fin} {gd : Bool → Bool} {lv : List Value → List Value} {Q : Addr → Shared → Prop}
    (he : starEach [arg] C.env = (false, eval arg C.env) :: starEach [] C.env)
    (hmade : wpAny C.M (C.A.deeper C.env) (eval arg C.env) (fun u s1 => ∃ a g, u = .ref a ∧ s1.heap.IsGen a g ∧ a < s1.heap.objs.size ∧ ∀ h1 c1, (∀ b o, s1.heap.get? b = some o → h1.get? b = some o) → h1.get? s1.heap.objs.size = some (lstObj #[] c1) → h1.objs.size = s1.heap.objs.size + 1 →
      Conf C.M (C.A.deeper C.env).in1 (RRest C.M fun r s' => r = .ok (.ret .none) ∧ Q s1.heap.objs.size s') (.builtin "list.extend.loop" ⟨[.ref s1.heap.objs.size, .ref a, .none], []⟩) (C.M.den (.builtin "list.extend.loop" ⟨[.ref s1.heap.objs.size, .ref a, .none], []⟩)) [] { s1 with heap := h1 }) NoX s)
    (hK : ∀ S s', Q S s' → Conf C.M C.A R c (K (.ref S)) fs s') :
    Conf C.M C.A R c ((eval (.Call (.Name "list" p) [arg] [] pos) C.env).wrap K Hh gd lv) fs s := by
  show Conf C.M C.A R c ((eval (.Name "list" p) C.env >>= fun f => callWith pos f [] (backTo pos (starEach [arg] C.env)) []).wrap K Hh gd lv) fs s
  refine cf_wbindN ?_
  rw [hov]
  obtain ⟨mb, h1, h2⟩ := ok.mod.blt
  have bk : ∀ b o, C.base.get? b = some o → s.heap.get? b = some o := fun b o e => (I.bs b o e).1
  refine Calls.Name_function_global ok.kind hgl (Calls.loadGlobal_builtin (ok.mod.glob.keeps bk) mL (h1.keeps bk) ((h2 "list" (by decide)).trans boot_list) ?_) (by decide)
  show Conf C.M C.A R c ((callWith pos (.type "list") [] (backTo pos (starEach [arg] C.env)) []).wrap K Hh gd lv) fs s
  rw [he]
  unfold callWith
  refine cf_wbindN (wpAny_holding ?_)
  rw [hov]
  refine Calls.evalArgs_plain (Calls.spliced_cons (wpAny_mono hmade (fun u s1 hq => ?_) fun _ _ z => z))
  refine Calls.spliced_nil ?_
  obtain ⟨a, g, rfl, hg, hlt, hloop⟩ := hq
  refine cf_wbindN (wpAny_standAt ?_)
  refine cf_wbindN (wpAny_pure ?_)
  show Conf C.M C.A R c ((PySem.call (.type "list") [.ref a] [] >>= fun r => holding [r] point >>= fun _ => pure r).wrap K Hh gd lv) fs s1
  refine cf_wbindC (cf_value (A' := C.A.deeper C.env) hnf (call_list_conf hg hlt hloop) (by rw [hov]; exact Le.refl _) fun r s' hr => ?_)
  obtain ⟨rfl, hq⟩ := hr
  refine cf_wbindN (wpAny_holding (wpAny_point ?_))
  exact hK _ _ hq
end
end Pf
end

section
set_option linter.all false
set_option maxRecDepth 100000
set_option maxHeartbeats 1000000
/-! list(each_order(n)) in a body. -/
namespace Pf
open PySem PySem.Spec PyProof.Rows L2 Cf
/-- the orders stand there, in order -/
structure OrdsAt (IsO : OrdP) (H : Hp) (xs : List V) (ts : List (List Int)) : Prop where
  len : xs.length = ts.length
  at_ : ∀ (i : Nat) (t : List Int), ts[i]? = some t → ∃ q, xs[i]? = some (.ref q) ∧ IsO H q t
theorem ords_of {IsO : OrdP} {H : Hp} : ∀ {ts : List (List Int)} {vs : List Value}, Puts (OutE IsO) H ts vs → ∃ xs : List V, Vals xs vs ∧ OrdsAt IsO H xs ts
  | _, _, .nil => ⟨[], .nil, rfl, fun i t e => by simp at e⟩
  | _, _, .cons ⟨q, e, h⟩ r => by
    obtain ⟨xs, hv, hl, ha⟩ := ords_of r
    refine ⟨.ref q :: xs, .cons e hv, by rw [List.length_cons, List.length_cons, hl], fun i t e' => ?_⟩
    cases i with
    | zero => cases e'; exact ⟨q, rfl, h⟩
    | succ i => exact ha i t (by simpa using e')
/-- the text of each_order -/
structure TxO (K : PySem.W.Frag) (mg : Str → Option Value) (f : Addr) (kV doc pm cd ct oc : Value) (an od : Option Addr) (osl : Array (Option Value)) : Prop where
  lk : K.lookup f = some ⟨oc, od, .func (dOf "each_order" sEO kV doc pm cd ct oc an od osl).fn, osl⟩
  hcd : PySem.W.codeIn K cd "each_order" = true
  hm : mg "each_order" = some (.ref f)
  hk : PySem.W.keepIn K (.ref f) = true
  hb : Binds K (dOf "each_order" sEO kV doc pm cd ct oc an od osl).fn ["many"] []
theorem hok_laid {P : Program} {w : World} {H : Hp} {h : Heap} {S : Addr} {o : HO} (hok : HOk P w H h) (hn : H S = none) (new : ObjOk P w (upd H S o) h S o) : HOk P w (upd H S o) h := fun b u q => by
  by_cases hb : b = S
  · subst hb; rw [upd_same] at q; cases q; exact new
  · rw [upd_ne hb] at q
    exact (hok b u q).stay (fun _ _ _ z => z) (fun d z => by rw [upd_ne (ne_of_none z hn)]; exact z) fun d xs z => by rw [upd_ne (ne_of_none z hn)]; exact z
section
variable {C : BC} {σ : L2.St} {H H' : Hp} {s s' : Shared}
/-- the body's knowledge behind the filling -/
theorem bi_dr (ok : C.Ok) {D : Gn} {S : Addr} (ho : D.outer = C.env :: C.outer) (hp : D.prog = C.prog) (hw : D.w = C.w) (hb : D.base = C.base) (I : BI C σ H s) (z : Dr D S H s H' s') : BI C σ H' s' := by
  have hfr : frs D.outer = C.L :: frs C.outer := by rw [ho]; rfl
  have hL : C.L ∈ frs D.outer := by rw [hfr]; exact List.mem_cons_self
  refine I.moved ok (fun o e => z.slot _ o hL e) (fun b o e => z.bs b o (by rw [hb]; exact e)) ?_ (fun b hb => z.frf b (by rw [hfr]; exact List.mem_cons_of_mem _ hb)) (z.frf _ hL) (by have := z.hok; rw [hp, hw] at this; exact this)
  exact slot_funs (fun b o hb e => z.slot b o (by rw [hfr]; exact List.mem_cons_of_mem _ hb) e) I.funs
theorem bi_kept (ok : C.Ok) (I : BI C σ H s) (k : ∀ b o, s.heap.get? b = some o → s'.heap.get? b = some o) : BI C σ H s' :=
  I.moved ok (fun o e => ⟨o.slots, k _ o e⟩) (fun b o e => ⟨k b o (I.bs b o e).1, (I.bs b o e).2⟩) (funs_kept I.funs fun b o _ e => k b o e) I.frf I.free (I.hok.kept k)
theorem bi_upd (ok : C.Ok) (I : BI C σ H s) {S : Addr} {o : HO} (hn : H S = none) (hL : C.L < S) (hok : HOk C.prog C.w (upd H S o) s.heap) : BI C σ (upd H S o) s := by
  have ne : ∀ b, b < S → upd H S o b = H b := fun b hb => upd_ne (Nat.ne_of_lt hb)
  refine I.moved ok (fun o e => ⟨o.slots, e⟩) (fun b o e => ⟨(I.bs b o e).1, ?_⟩) I.funs (fun b hb => ?_) ?_ hok
  · rw [ne b (Nat.lt_trans (Nat.lt_of_lt_of_le (Heap.lt_size e) ok.bsz) hL)]; exact (I.bs b o e).2
  · rw [ne b (Nat.lt_trans (ok.frlt b hb) hL)]; exact I.frf b hb
  · rw [ne _ hL]; exact I.free
variable {Good : List Int → Prop} {IsO : OrdP} {kOP : Nat} {n : Nat}
variable {fP : Addr} {kV doc pm cdP ct oc : Value} {an od : Option Addr} {osl : Array (Option Value)}
variable {fE : Addr} {kV' doc' pm' cdE ct' oc' : Value} {an' od' : Option Addr} {osl' : Array (Option Value)}
theorem cf_orders (hIso : ∀ H H' q t, Cf.Same H H' → IsO H q t → IsO H' q t) (TP : TxP C.K C.mg C.base fP kV doc pm cdP ct oc an od osl) (T : TxE C.prog C.w C.K C.mg C.base Good IsO kOP) (TO : TxO C.K C.mg fE kV' doc' pm' cdE ct' oc' an' od' osl')
    (ok : C.Ok) {c : Code} {fs : List Frame} (hov : C.A.over c fs = C.A.deeper C.env) (hnf : NoH fs = true) {R : Rest} (I : BI C σ H s) (h2 : 2 ≤ n) (h7 : n ≤ 7) (hgood : ∀ t ∈ outsP n [] (rangeI n), Good t ∧ t.length ≤ 1000) (hlen : (ordersOf n).length ≤ 1000)
    (hr : Room (kOP + 22) (C.A.deeper C.env)) (hgl : C.env.kindOf "list" = some .globalImplicit) (hge : C.env.kindOf "each_order" = some .globalImplicit) {e1 : Expr} {p pos p' pos' : Pos} {K : Value → Sem PySem.Fin} {Hh : Value → Sem PySem.Fin} {gd : Bool → Bool} {lv : List Value → List Value} {i : Nat}
    (he : starEach [Expr.Call (.Name "each_order" p') [e1] [] pos'] C.env = (false, eval (Expr.Call (.Name "each_order" p') [e1] [] pos') C.env) :: starEach [] C.env) (he1 : starEach [e1] C.env = (false, eval e1 C.env) :: starEach [] C.env)
    (hv : ∀ H s, PE (C.cx H s) e1 (tVar i)) (hi : σ[i]? = some (some (.int n)))
    (hK : ∀ S s' H' xs, BI C σ H' s' → Kp C [] H s H' s' → Cf.Same H H' → H S = none → H' S = some (.lst xs) → OrdsAt IsO H' xs (ordersOf n) → Conf C.M C.A R c (K (.ref S)) fs s') :
    Conf C.M C.A R c ((eval (.Call (.Name "list" p) [.Call (.Name "each_order" p') [e1] [] pos'] [] pos) C.env).wrap K Hh gd lv) fs s := by
  have kAE : Room (kOP + 20) (C.A.deeper C.env).in1.in1.in1 := by
    refine ⟨hr.hd, ?_, ?_⟩
    · have := hr.dp
      show (C.A.deeper C.env).depth + 3 * (kOP + 20) + 5 < recursionLimit
      omega
    · have := hr.un
      show (C.A.deeper C.env).units + 1 + 1 + 1 + 16 * (kOP + 20) + 200 < cLine
      omega
  refine cf_listG (Q := fun S s' => ∃ H' xs, BI C σ H' s' ∧ Kp C [] H s H' s' ∧ Cf.Same H H' ∧ H S = none ∧ H' S = some (.lst xs) ∧ OrdsAt IsO H' xs (ordersOf n)) ok hov hnf I hgl T.mL he ?_ fun S s' ⟨H', xs, q1, q2, q3, q4, q5, q6⟩ => hK S s' H' xs q1 q2 q3 q4 q5 q6
  refine wpAny_mono (eval_made (N := NEO) (d := dOf "each_order" sEO kV' doc' pm' cdE ct' oc' an' od' osl') (Qa := fun vs H1 => vs = [.int n] ∧ H1 = H) ok I TO.lk TO.hcd gsEO (hr.mono (by omega : kOP + 20 ≤ kOP + 22)) hge TO.hm TO.hk TO.hb (pa_cons (hv H s) pa_nil he1) ⟨.int n, hi, rfl, rfl, rfl⟩ (by decide) he1 rfl) (fun u s1 hq => ?_) fun _ _ z => z
  obtain ⟨vs, H1, a, L', g, rfl, I1, kp1, ⟨rfl, rfl⟩, z1, z2, z3, z4, z5, z6, z7, z8, z9⟩ := hq
  refine ⟨a, g, rfl, z6, z3, fun h1 c1 hk hS hsz => ?_⟩
  have hLL : C.L < L' := Nat.lt_of_lt_of_le I.lt z1
  have hfrD : ∀ q ∈ frs (C.env :: C.outer), q < L' := fun q hq => by
    rcases List.mem_cons.mp (show q ∈ C.L :: frs C.outer from hq) with z | z
    · rw [z]; exact hLL
    · exact Nat.lt_trans (ok.frlt q z) hLL
  have hfD : (C.A.deeper C.env).in1.in1.in1.frames = some (C.env :: C.outer) := Around.frames_deeper ok.frames
  have hbD : C.base.objs.size ≤ L' := Nat.le_trans ok.bsz (Nat.le_of_lt hLL)
  have hLS : L' < s1.heap.objs.size := Nat.lt_trans z2 z3
  have hCS : C.L < s1.heap.objs.size := Nat.lt_trans hLL hLS
  have hg1 : g < s1.gens.size := by omega
  have okD : (gEO C.prog C.w C.K C.mg C.base fE cdE (C.A.deeper C.env).in1.in1.in1 (C.env :: C.outer) L' (s1.heap.objs.size + 1) s1.gens.size g).Ok :=
    ⟨okEO ok.mod hr.hd hfD hbD hfrD, Nat.lt_succ_of_lt hLS, hg1⟩
  have IE : BI (cEO C.prog C.w C.K C.mg C.base fE cdE (C.A.deeper C.env).in1.in1.in1 (C.env :: C.outer) L') (start NEO [.int n]) H1 { s1 with heap := h1 } := bi_kept okD.toOk (z9 _) hk
  have F := eo_fut (n₀ := s1.heap.objs.size + 1) (g := g) (s := { s1 with heap := h1 }) TP T h2 h7 hgood kAE hfD hbD hfrD (Nat.lt_succ_of_lt hLS) (by show s1.heap.objs.size + 1 ≤ h1.objs.size; rw [hsz]; exact Nat.le_refl _) hg1 IE
  have hw := fut_iff.mp F H1 (Shared.setGen { s1 with heap := h1 } g .running) (Slp.self okD IE) (setGen_at z8)
  have hS0 : H1 s1.heap.objs.size = none := I1.hok.fresh (Nat.le_refl _)
  have hSf : s1.heap.objs.size ∉ frs (C.env :: C.outer) := fun hm => absurd (Nat.lt_trans (hfrD _ hm) hLS) (Nat.lt_irrefl _)
  have haf : a ∉ frs (C.env :: C.outer) := fun hm => absurd (Nat.lt_trans (hfrD _ hm) z2) (Nat.lt_irrefl _)
  have hb1 : C.base.objs.size ≤ s1.heap.objs.size := Nat.le_trans hbD (Nat.le_of_lt hLS)
  have old_lt : ∀ b o, s.heap.get? b = some o → b < L' := fun b o e => Nat.lt_of_lt_of_le (Heap.lt_size e) z1
  refine drain_conf (D := gEO C.prog C.w C.K C.mg C.base fE cdE (C.A.deeper C.env).in1.in1.in1 (C.env :: C.outer) L' (s1.heap.objs.size + 1) s1.gens.size g) (Out := OutE IsO) (fun H H' t v sm ⟨q, e, h⟩ => ⟨q, e, hIso _ _ _ _ sm h⟩) okD
    (Nat.lt_succ_self _) (Nat.ne_of_gt hLS) hSf hb1 (Nat.ne_of_gt z3) (Nat.lt_succ_of_lt z3) (Nat.ne_of_gt z2) haf (Le.refl _) hr.hd (hr.depth) (H₀ := H1) (s₀ := { s1 with heap := h1 }) (all := ordersOf n)
    (fun H' s' acc c' dr hbare hfree hacc hputs => ?_) (ordersOf n) [] _ H1 _ #[] c1 rfl (by show 0 + _ ≤ 1000; omega) (Dr.of_stp (Stp.self okD IE)) .nil hS0 z7 hS (genAt_of (z6.keeps hk)) z8 hw
  obtain ⟨xs, hvals, hat⟩ := ords_of hputs
  have I2 : BI C σ H' s' := bi_dr ok rfl rfl rfl rfl (bi_kept ok I1 hk) dr
  have hxl : xs.length ≤ 1000 := by rw [hat.len]; exact hlen
  have new : HOk C.prog C.w (upd H' s1.heap.objs.size (.lst xs)) s'.heap := hok_laid I2.hok hfree ⟨Nat.le_of_lt (small1000' (by omega)), acc.toList, c', hvals, by rw [hacc]⟩
  have sm2 : Cf.Same H1 (upd H' s1.heap.objs.size (.lst xs)) := dr.same.trans (same_upd hfree)
  refine ⟨_, xs, bi_upd ok I2 hfree hCS new, ⟨dr.os.trans kp1.os, fun b o e hn hL hf _ hc => ?_, fun b o hb e => ?_, ⟨fun k x e hx => ?_, fun k x e => ?_, Nat.le_trans kp1.gens.sz dr.gsz⟩, Nat.le_trans kp1.sz (Nat.le_trans ?_ dr.sz)⟩, sm2, ?_, upd_same, ⟨hat.len, fun k t e => ?_⟩⟩
  · obtain ⟨e1', n1'⟩ := kp1.keep b o e hn hL hf (by simp) hc
    have hbL := old_lt b o e
    have hbS : b < s1.heap.objs.size := Nat.lt_trans hbL hLS
    obtain ⟨e2, n2⟩ := dr.keep b o (Nat.lt_succ_of_lt hbS) (Nat.ne_of_lt hbL) (Nat.ne_of_lt hbS) (fun hm => (List.mem_cons.mp (show b ∈ C.L :: frs C.outer from hm)).elim hL hf) (hk _ _ e1') n1' hc
    exact ⟨e2, by rw [upd_ne (Nat.ne_of_lt hbS)]; exact n2⟩
  · obtain ⟨sl, e1'⟩ := kp1.slot b o hb e
    obtain ⟨sl2, e2⟩ := dr.slot b _ (List.mem_cons_of_mem _ hb) (hk _ _ e1')
    exact ⟨sl2, e2⟩
  · have hkl : k < s.gens.size := (Array.getElem?_eq_some_iff.mp e).1
    exact dr.gold k x (by show k < s1.gens.size; omega) (by show k ≠ g; omega) (kp1.gens.old k x e hx) hx
  · rcases dr.gnew k x e with r | r | r | r
    · exact kp1.gens.new k x r
    · exact .inr r
    · exact .inr (hbare k x (by show g ≤ k; have : s1.gens.size ≤ k := r; omega) (.inl r) e)
    · exact .inr (hbare k x (by show g ≤ k; have : k = g := r; omega) (.inr r) e)
  · show s1.heap.objs.size ≤ h1.objs.size
    rw [hsz]; exact Nat.le_succ _
  · cases q : H1 s1.heap.objs.size with
    | none => rfl
    | some z => rw [q] at hS0; cases hS0
  · obtain ⟨q, e1', e2⟩ := hat.at_ k t e
    exact ⟨q, e1', hIso _ _ _ _ (same_upd hfree) e2⟩
end
end Pf
end

section
set_option linter.all false
set_option maxRecDepth 100000
set_option maxHeartbeats 1000000
/-! The defs' promises: numbers and names. -/
namespace Pd
open PySem PySem.Spec PyProof.Rows L2
abbrev topS := Pf.topS
/-- a def of the module that keeps a promise -/
def Cal (P : Program) (w : World) (K : PySem.W.Frag) (mg : Str → Option Value) (base : Heap) (k : Nat) (x : Str) (ps : List Str) (sp : Sp) : Prop :=
  ∃ (f : Addr) (fd : FuncData), FnOk P w K mg base CX0 k f fd ps sp ∧ mg x = some (.ref f) ∧ PySem.W.keepIn K (.ref f) = true ∧ Binds K fd ps []
/-- a def of the text, as it stands -/
def Dfn (K : PySem.W.Frag) (mg : Str → Option Value) (x : Str) (st : Stmt) (ps : List Str) : Prop :=
  ∃ (f : Addr) (fd : FuncData), Fun K x x st f fd ∧ mg x = some (.ref f) ∧ Binds K fd ps []
/-- the built-ins' names -/
structure TB (mg : Str → Option Value) : Prop where
  isi : mg "isinstance" = none
  int : mg "int" = none
  bool : mg "bool" = none
  str : mg "str" = none
  tuple : mg "tuple" = none
  len : mg "len" = none
  all : mg "all" = none
  max : mg "max" = none
  min : mg "min" = none
  abs : mg "abs" = none
  sorted : mg "sorted" = none
  list : mg "list" = none
  range : mg "range" = none
  zip : mg "zip" = none
  enumerate : mg "enumerate" = none
  divmod : mg "divmod" = none
  set : mg "set" = none
section
variable {P : Program} {w : World} {K : PySem.W.Frag} {mg : Str → Option Value} {base : Heap}
theorem Dfn.cal {x : Str} {st : Stmt} {ps N : List Str} {k : Nat} {sp : Sp} (D : Dfn K mg x st ps) (S : FnScope N ps (defScope st)) (len : ∀ vs H Q E, sp vs H Q E → vs.length = ps.length)
    (hbody : ∀ (f : Addr) (cdv : Value) (A : Around) (outer : List Env) (s : Shared) (H : Hp) (vs : List V) (Q : VK) (E : XK), Room k (A.deeper (envOfC x (defScope st) s.heap.objs.size f cdv)) → sp vs H Q E →
      ∃ t, PSs (cxOf CX0 P w K mg base N x (defScope st) f cdv A outer s H E).nox (defBody st) t ∧ t { nx := fun _ H' => Q .non H', rt := Q } (start N vs) H) : Cal P w K mg base (k + 1) x ps sp := by
  obtain ⟨f, fd, F, g, b⟩ := D
  exact ⟨f, fd, F.ok S len fun cdv A outer s H vs Q E hr h => hbody f cdv A outer s H vs Q E hr h, g, F.kp, b⟩
/-- f(e, ..), f such a def -/
theorem pe_cal {X : Cx} {k j : Nat} {x : Str} {ps : List Str} {sp : Sp} {p pos : Pos} {e : Expr} {es : List Expr} {t : TA} (C : Cal X.prog X.w X.K X.mg X.base k x ps sp) (hr : Room j X.A) (hk : k ≤ j) (hg : Gl X x) (ha : PA X (e :: es) t)
    (hdb : (x == ("__debug__" : Str)) = false := by decide) (he : starEach (e :: es) X.env = (false, eval e X.env) :: starEach es X.env := by rfl) (hpl : (backTo pos (starEach es X.env)).any (·.1) = false := by rfl) :
    PE X (.Call (.Name x p) (e :: es) [] pos) (tCall sp [] E0 t) := by
  obtain ⟨f, fd, F, g, kp, b⟩ := C
  exact pe_call F (hr.mono hk) hg g kp b .nil pass0 ha hdb he hpl

/-! ### is_whole -/
abbrev sIW : Stmt := topS 11
theorem scIW : FnScope ["value"] ["value"] (defScope sIW) := ⟨rfl, rfl, rfl, by decide +kernel, rfl, by decide +kernel, by decide +kernel⟩
def isIntV : V → Bool
  | .int _ => true
  | _ => false
def spIW : Sp := fun vs H Q _ => ∃ v, vs = [v] ∧ ((∃ i, v = .int i) ∨ ∃ b, v = .bl b) ∧ Q (.bl (isIntV v)) H
theorem ok_is_whole (B : TB mg) (D : Dfn K mg "is_whole" sIW ["value"]) : Cal P w K mg base 1 "is_whole" ["value"] spIW := by
  refine D.cal scIW (fun vs H Q E h => ?_) (fun f cdv A outer s H vs Q E hr h => ?_)
  · obtain ⟨v, rfl, _⟩ := h; rfl
  · obtain ⟨v, rfl, hv, q⟩ := h
    refine ⟨_, pss_one (ps_ret (pe_and (pe_callB call_isi (by rfl) B.isi (by decide +kernel) (pa_cons (pv 0) (pa_cons (pe_bltn (v := .ty "int") rfl B.int (by decide +kernel) rfl) pa_nil)))
      (pe_one (pe_not (pe_callB call_isi (by rfl) B.isi (by decide +kernel) (pa_cons (pv 0) (pa_cons (pe_bltn (v := .ty "bool") rfl B.bool (by decide +kernel) rfl) pa_nil))))))), ?_⟩
    rcases hv with ⟨i, rfl⟩ | ⟨b, rfl⟩
    · refine ⟨.int i, rfl, .int i, .ty "int", .type "int", .type "int", true, rfl, .ty "int", .base (.int i), kit_ty (by decide +kernel), true, rfl, iteT ?_⟩
      exact ⟨.int i, rfl, .int i, .ty "bool", .type "int", .type "bool", false, rfl, .ty "bool", .base (.int i), kit_ty (by decide +kernel), false, rfl, q⟩
    · refine ⟨.bl b, rfl, .bl b, .ty "int", .type "bool", .type "int", true, rfl, .ty "int", .base (.bl b), kit_ty (by decide +kernel), true, rfl, iteT ?_⟩
      exact ⟨.bl b, rfl, .bl b, .ty "bool", .type "bool", .type "bool", true, rfl, .ty "bool", .base (.bl b), kit_ty (by decide +kernel), true, rfl, q⟩

/-! ### is_integer, require_count -/
abbrev sII : Stmt := topS 12
theorem scII : FnScope ["value"] ["value"] (defScope sII) := ⟨rfl, rfl, rfl, by decide +kernel, rfl, by decide +kernel, by decide +kernel⟩
def great : Int := 10 ^ 60
def spII : Sp := fun vs H Q _ => ∃ i : Int, vs = [.int i] ∧ -1000 ≤ i ∧ i ≤ 1000 ∧ Q (.bl true) H
theorem ok_is_integer (hIW : Cal P w K mg base 1 "is_whole" ["value"] spIW) (hG : ∃ t, mg "GREAT" = some (.int great t)) (D : Dfn K mg "is_integer" sII ["value"]) : Cal P w K mg base 2 "is_integer" ["value"] spII := by
  obtain ⟨tg, hG⟩ := hG
  refine D.cal scII (fun vs H Q E h => ?_) (fun f cdv A outer s H vs Q E hr h => ?_)
  · obtain ⟨v, rfl, _⟩ := h; rfl
  · obtain ⟨i, rfl, h1, h2, q⟩ := h
    refine ⟨_, pss_one (ps_ret (pe_and (pe_cal hIW hr (by decide) (by rfl) (pa_cons (pv 0) pa_nil)) (pe_one (pe_chain op_lt op_lt (pe_un un_neg (pe_glob (v := .int great) rfl hG ⟨_, rfl⟩)) (pv 0) (pe_glob (v := .int great) rfl hG ⟨_, rfl⟩))))), ?_⟩
    refine ⟨.int i, rfl, .int i, rfl, .inl ⟨i, rfl⟩, true, rfl, iteT ?_⟩
    have g : great = 10 ^ 60 := rfl
    have l1 : decide (-great < i) = true := decide_eq_true (by rw [g]; omega)
    have l2 : decide (i < great) = true := decide_eq_true (by rw [g]; omega)
    refine ⟨great, rfl, .int i, rfl, -great, i, rfl, rfl, true, congrArg V.bl l1, iteT ?_⟩
    refine ⟨i, great, rfl, rfl, ?_⟩
    show Q (V.bl (decide (i < great))) H
    rw [l2]; exact q
abbrev sRC : Stmt := topS 14
theorem scRC : FnScope ["value", "least", "most"] ["value", "least", "most"] (defScope sRC) := ⟨rfl, rfl, rfl, by decide +kernel, rfl, by decide +kernel, by decide +kernel⟩
theorem ok_require_count (hII : Cal P w K mg base 2 "is_integer" ["value"] spII) (D : Dfn K mg "require_count" sRC ["value", "least", "most"]) : Cal P w K mg base 3 "require_count" ["value", "least", "most"] Pf.spRC := by
  refine D.cal scRC (fun vs H Q E h => ?_) (fun f cdv A outer s H vs Q E hr h => ?_)
  · obtain ⟨v, lo, hi, rfl, _⟩ := h; rfl
  · obtain ⟨v, lo, hi, rfl, h1, h2, h3, h4, q⟩ := h
    refine ⟨_, pss_one (ps_if (PW.pt (pw_or (pt_not (pt_val (pe_cal hII hr (by decide) (by rfl) (pa_cons (pv 0) pa_nil)))) (pw_or1 (pt_not (pt_chain op_le op_le (pv 1) (pv 0) (pv 2)))))) (pss_one ps_never) pss_nil), ?_⟩
    refine ⟨.int v, rfl, v, rfl, h3, h4, true, rfl, iteF ?_⟩
    refine ⟨.int lo, rfl, .int v, rfl, lo, v, rfl, rfl, true, congrArg V.bl (decide_eq_true h1), iteT ?_⟩
    refine ⟨.int hi, rfl, v, hi, rfl, rfl, true, congrArg V.bl (decide_eq_true h2), iteF ?_⟩
    exact q H (Cf.Same.refl _)
end
end Pd
end

section
set_option linter.all false
set_option maxRecDepth 100000
set_option maxHeartbeats 1000000
/-! names. -/
namespace Pd
open PySem PySem.Spec PyProof.Rows L2
/-- a comprehension's reading: ys comes out, all else is kept -/
theorem lc_same {J : It} {H1 : Hp} {n : Nat} {ys : List V} {D : Addr} {fin : Hp → Prop} {step : (Hp → Prop) → V → Hp → Prop} (hD : H1 D = none) (hys : ys.length = n) (hstop : ∀ H, Cf.Same H1 H → J.stop n H) (hgo : ∀ i H, i < n → Cf.Same H1 H → J.go i H)
    (hfin : ∀ H, Cf.Same H1 H → H D = some (.lst ys) → fin H)
    (hstep : ∀ (i : Nat) (H : Hp) (x : V) (H' : Hp) (Nx : Hp → Prop), i < n → Cf.Same H1 H → H D = some (.lst (ys.take i)) → J.yld i H x H' → (∀ H'', Cf.Same H1 H'' → H'' D = some (.lst (ys.take (i + 1))) → Nx H'') → step Nx x H') :
    ∃ W : Nat → Nat → Hp → Prop, (∃ m, W 0 m (upd H1 D (.lst []))) ∧ ∀ (i m : Nat) (H : Hp), W i m H → (J.stop i H ∧ fin H) ∨ (J.go i H ∧ ∃ Nx : Hp → Prop, (∀ H', Nx H' → ∃ m', m' < m ∧ W (i + 1) m' H') ∧ ∀ (x : V) (H' : Hp), J.yld i H x H' → step Nx x H') := by
  refine ⟨fun i m H => i + m = n ∧ Cf.Same H1 H ∧ H D = some (.lst (ys.take i)), ⟨n, Nat.zero_add n, Pf.same_upd hD, by rw [upd_same]; rfl⟩, fun i m H hW => ?_⟩
  obtain ⟨e, sm, hd⟩ := hW
  by_cases hi : i < n
  · refine .inr ⟨hgo i H hi sm, fun H'' => Cf.Same H1 H'' ∧ H'' D = some (.lst (ys.take (i + 1))), fun H' h => ⟨m - 1, by omega, by omega, h.1, h.2⟩, fun x H' hy => ?_⟩
    exact hstep i H x H' _ hi sm hd hy fun H'' h1 h2 => ⟨h1, h2⟩
  · have e' : i = n := by omega
    subst e'
    refine .inl ⟨hstop H sm, hfin H sm ?_⟩
    rw [hd, List.take_of_length_le (by omega)]
section
variable {P : Program} {w : World} {K : PySem.W.Frag} {mg : Str → Option Value} {base : Heap}
def letters : Str := "abcdefghijklmnopqrstuvwxyz"
/-- the i-th name -/
def nm (i : Nat) : Str := { cps := #[97 + i] }
abbrev sNN : Stmt := topS 15
theorem scNN : FnScope ["index", "first", "last"] ["index"] (defScope sNN) := ⟨rfl, rfl, rfl, by decide +kernel, rfl, by decide +kernel, by decide +kernel⟩
def spNN : Sp := fun vs H Q _ => ∃ i : Nat, vs = [.int i] ∧ i < 7 ∧ ∀ H', Cf.Same H H' → Q (.str (nm i)) H'
theorem ok_nth_name (B : TB mg) (hRC : Cal P w K mg base 3 "require_count" ["value", "least", "most"] Pf.spRC) (hM : ∃ t, mg "MANY_NAMES" = some (.int 702 t)) (hL : ∃ t, mg "LETTERS" = some (.str letters t)) (D : Dfn K mg "nth_name" sNN ["index"]) :
    Cal P w K mg base 4 "nth_name" ["index"] spNN := by
  obtain ⟨tm, hM⟩ := hM
  obtain ⟨tl, hL⟩ := hL
  refine D.cal scNN (fun vs H Q E h => ?_) (fun f cdv A outer s H vs Q E hr h => ?_)
  · obtain ⟨v, rfl, _⟩ := h; rfl
  · obtain ⟨i, rfl, h1, q⟩ := h
    refine ⟨_, pss_cons (ps_expr (pe_cal hRC hr (by decide) (by rfl) (pa_cons (pv 0) (pa_cons pe_int (pa_cons (pe_op op_sub (pe_glob (v := .int 702) rfl hM ⟨_, rfl⟩) pe_int) pa_nil)))))
      (pss_cons (ps_if (pt_cmpR op_lt (pv 0) (pe_callB call_len_str (by rfl) B.len PySem.boot_len (pa_cons (pe_glob (v := .str letters) rfl hL ⟨_, rfl⟩) pa_nil)) (nomark _))
        (pss_one (ps_ret (pe_item_str (pe_glob (v := .str letters) rfl hL ⟨_, rfl⟩) (pv 0) (fun _ _ => rfl)))) pss_nil) pss_never), ?_⟩
    refine ⟨.int i, rfl, 702, 1, rfl, rfl, i, 0, 701, rfl, by omega, by omega, by omega, by omega, fun H' sm => ?_⟩
    refine ⟨.int i, rfl, letters, rfl, by decide +kernel, i, _, rfl, rfl, _, rfl, ?_⟩
    have l1 : decide ((i : Int) < (letters.length : Int)) = true := decide_eq_true (by
      have h26 : letters.length = 26 := by decide +kernel
      rw [h26]; omega)
    rw [l1]
    refine iteT ?_
    have hc : ∀ i : Nat, i < 7 → letters.cps[i]? = some (97 + i) := by decide +kernel
    exact ⟨.int i, rfl, letters, i, 97 + i, rfl, rfl, by omega, by omega, of_decide_eq_true l1, by rw [Int.toNat_natCast]; exact hc i h1, q H' sm⟩
/-! ### is_name -/
abbrev sNa : Stmt := topS 13
theorem scNa : FnScope ["value", "sign"] ["value"] (defScope sNa) := ⟨rfl, rfl, rfl, by decide +kernel, rfl, by decide +kernel, by decide +kernel⟩
def spNa : Sp := fun vs H Q _ => ∃ i : Nat, vs = [.str (nm i)] ∧ i < 7 ∧ ∀ H', Cf.Same H H' → Q (.bl true) H'
theorem ok_is_name (B : TB mg) (hM : ∃ t, mg "MAX_LETTERS" = some (.int 8 t)) (hL : ∃ t, mg "LETTERS" = some (.str letters t)) (D : Dfn K mg "is_name" sNa ["value"]) :
    Cal P w K mg base 1 "is_name" ["value"] spNa := by
  obtain ⟨tm, hM⟩ := hM
  obtain ⟨tl, hL⟩ := hL
  refine D.cal scNa (fun vs H Q E h => ?_) (fun f cdv A outer s H vs Q E hr h => ?_)
  · obtain ⟨v, rfl, _⟩ := h; rfl
  · obtain ⟨i, rfl, h1, q⟩ := h
    refine ⟨_, pss_cons (ps_if (PW.pt (pw_or (pt_not (pt_val (pe_callB call_isi (by rfl) B.isi (by decide +kernel) (pa_cons (pv 0) (pa_cons (pe_bltn (v := .ty "str") rfl B.str (by decide +kernel) rfl) pa_nil)))))
        (pw_or1 (pt_not (pt_chain op_le op_le pe_int (pe_callB call_len_str (by rfl) B.len PySem.boot_len (pa_cons (pv 0) pa_nil)) (pe_glob (v := .int 8) rfl hM ⟨_, rfl⟩)))))) (pss_one ps_never) pss_nil)
      (pss_one (ps_ret (pe_callB (cr_all rfl) (by rfl) B.all (by decide +kernel) (pa_cons
        (pe_lc (own := [("sign", 1)]) (g := gName 1) (tt := tYes) rfl scNa.nd (pi_str (pv 0)) (blkOk_by (N := ["value", "sign"]) (sc := defScope sNa) (by decide +kernel)) (fun _ _ _ _ _ => pg_name (i := 1) scNa.nd rfl (Or.inl rfl)) (fun _ _ _ _ _ => pts_nil)
          (fun _ _ _ _ _ => pe_cmpR op_in_sign (pv 1) (pe_glob (v := .str letters) rfl hL ⟨_, rfl⟩) rfl)) pa_nil)))), ?_⟩
    refine ⟨.str (nm i), rfl, .str (nm i), .ty "str", .type "str", .type "str", true, rfl, .ty "str", .base (.str _), kit_ty (by decide +kernel), true, rfl, iteF ?_⟩
    refine ⟨.str (nm i), rfl, nm i, rfl, by show 1 ≤ sizeLine; decide, 1, ((nm i).length : Int), rfl, rfl, true, rfl, iteT ?_⟩
    refine ⟨1, 8, rfl, rfl, true, rfl, iteF ?_⟩
    refine ⟨.str (nm i), rfl, nm i, rfl, fun D hD => ?_⟩
    refine lc_same (n := 1) (ys := [.bl true]) hD rfl (fun H' _ => Nat.le_refl 1) (fun k H' hk _ => hk) (fun H' sm hl => ?_) (fun k H' x H'' Nx hk sm hd hy hN => ?_)
    · exact ⟨D, [true], rfl, .inl (.inl hl), q H' sm⟩
    · obtain ⟨rfl, c, ec, rfl⟩ := hy
      have ek : k = 0 := by omega
      subst ek
      have ec' : c = 97 + i := (Option.some.inj ec).symm
      subst ec'
      have hin : decide (97 + i ∈ letters.cps.toList) = true := by
        have : ∀ i : Nat, i < 7 → decide (97 + i ∈ letters.cps.toList) = true := by decide +kernel
        exact this i h1
      refine ⟨rfl, iteT (B := Nx H'') ?_⟩
      refine ⟨_, rfl, 97 + i, letters, rfl, rfl, [], hd, by show 0 < sizeLine; decide, ?_⟩
      rw [hin]
      refine hN _ (fun b z e => ?_) upd_same
      rw [upd_ne (ne_of_none e hD)]
      exact sm b z e
end
end Pd
end

section
set_option linter.all false
set_option maxRecDepth 100000
set_option maxHeartbeats 1000000
/-! enumerate over a tuple. -/
namespace Pe
open PySem PySem.Spec PyProof.Rows L2
open Sem (wp)
theorem meets_enum1 {v : Value} {o : Obj} {H : Heap → Prop} (B : Begins v o H) :
    Meets (Builtin.«enumerate.__new__» ⟨[.type "enumerate", v], []⟩) (fun _ R s => H s.heap ∧
      R (.ok (.ret (.ref (s.heap.push o).objs.size))) { s with heap := (s.heap.push o).push { cls := .type "enumerate", data := .fields #[.none, .bool false, .ref s.heap.objs.size, rawInt 0, .none, .none] } }) :=
  .of_wp fun prog w A R s h => by
    obtain ⟨hp, g, d, tk, os⟩ := s; obtain ⟨h1, h⟩ := h
    have hsub := sub_enumerate
    have q1 : ∀ {A' : Around} {E : Value → Shared → Prop} {Q : Value → Shared → Prop}, Q (.ref hp.objs.size) ⟨hp.push o, g, d, tk, os⟩ → wpAny (model prog w) A' (pyIter v) Q E ⟨hp, g, d, tk, os⟩ :=
      fun q => B.iter prog w _ _ ⟨hp, g, d, tk, os⟩ _ h1 q
    wp_walk using q1
    refine wpAny_stack_any fun st => wpAny_pure ?_
    split
    · rename_i c _ _ _ _ _
      cases (c == Value.type "enumerate")
      · wp_walk using q1
        exact ⟨_, rfl, h⟩
      · wp_walk using q1
        exact ⟨_, rfl, h⟩
    · wp_walk using q1
      exact ⟨_, rfl, h⟩
section
variable {prog : Program} {w : World} {A : Around} {E : Value → Shared → Prop} {s : Shared}
theorem call_enum1 {v : Value} {o : Obj} {H : Heap → Prop} {Q : Value → Shared → Prop} (B : Begins v o H) (h1 : H s.heap)
    (h : ∀ h', IsEnum h' (s.heap.objs.size + 1) s.heap.objs.size 0 .none → h'.get? s.heap.objs.size = some o → h'.objs.size = s.heap.objs.size + 2 →
      (∀ b o, s.heap.get? b = some o → h'.get? b = some o) → Q (.ref (s.heap.objs.size + 1)) { s with heap := h' }) :
    wpAny (model prog w) A (call (.type "enumerate") [v]) Q E s := by
  refine callType_new F.called_enumerate (by decide) (F.typeCall_enumerate_1 _) (F.newCall_enumerate_1 _) (fun obj => F.args_object_init_2 obj _) F.entry_enumerate_new (meets_enum1 B) ⟨h1, ?_⟩
  have hz : (s.heap.push o).objs.size = s.heap.objs.size + 1 := Heap.size_push ..
  show _ ∧ _
  rw [hz]
  have he : IsEnum ((s.heap.push o).push { cls := .type "enumerate", data := .fields #[.none, .bool false, .ref s.heap.objs.size, rawInt 0, .none, .none] }) (s.heap.objs.size + 1) s.heap.objs.size 0 .none := by
    have := Heap.get?_push_size (s.heap.push o) (o := { cls := .type "enumerate", data := .fields #[.none, .bool false, .ref s.heap.objs.size, rawInt 0, .none, .none] }) rfl
    rw [hz] at this; exact this
  refine ⟨⟨_, he, rfl⟩, h _ he (Heap.get?_push_of_some _ (Heap.get?_push_size _ B.free)) (by rw [Heap.size_push, hz]) fun b o x => Heap.get?_push_of_some _ (Heap.get?_push_of_some _ x)⟩
end
theorem enumT_end {prog : Program} {w : World} {A : Around} {E : Value → Shared → Prop} {s : Shared} {e it l : Addr} {i : Nat} {k : Int} {items : Array Value} {old : Value} {Q : Option Value → Shared → Prop} (hh : A.handled = none)
    (he : IsEnum s.heap e it k old) (hit : s.heap.IsTupleIter it l i) (hl : s.heap.IsTuple l items) (hx : items[i]? = none)
    (hQ : ∀ h', Heap.ExtBut it s.heap h' → Q none { s with heap := h' }) : wpAny (model prog w) A (pyNext (.ref e)) Q E s := by
  have hT : s.TypeIs (.ref e) "enumerate" := ⟨_, he, rfl⟩
  unfold pyNext
  refine wpAny_bind (wpAny_attempt (wpAny_callSpecial?_slot (name := Str.ofString "__next__") hT F.slot_enumerate_next
    (wpAny_call_entry F.slot_enumerate_next hT F.entry_enumerate_next ?_ (F.args_enumerate_next_1 _))))
  show wpAny _ _ (field (.ref e) 2 >>= _) _ _ _
  refine wpAny_bind (wpAny_field he rfl (x := .ref it) rfl ?_)
  refine wpAny_bind (wpAny_nextOf_tuple_end hh hit hl hx fun h' x he' hx' => ?_)
  obtain ⟨o, ho, hc⟩ := hx'
  refine wpAny_bind (wpAny_isInstance (T := "StopIteration") (b := true) ⟨o, ho, hc⟩ isSubtype_stop ?_)
  exact wpAny_pure (hQ _ he')
/-- the tuple at a, each item in a new pair -/
def IteT (K : PySem.W.Frag) (a : Addr) : It :=
  ⟨fun i H => ∃ (xs : List V) (x : V), SqT K H a xs ∧ xs[i]? = some x, fun i H v H' => ∃ T x, v = .ref T ∧ H T = none ∧ H' = upd H T (.tup [.int (i : Nat), x]) ∧ ∀ xs, SqT K H a xs → xs[i]? = some x, fun i H => ∃ xs : List V, SqT K H a xs ∧ xs.length ≤ i⟩
theorem turn_enumT {P : Program} {w : World} {K : PySem.W.Frag} {elts : List Expr} {kk : Nat} {tpos : Pos} (a e it : Addr) :
    Turn P w K (.Tuple elts kk tpos) (IteT K a) [e, it] e (fun i h => (∃ old, IsEnum h e it ((i : Nat) : Int) old) ∧ h.IsTupleIter it a i ∧ e ≠ it ∧ a ≠ it ∧ a ≠ e) where
  mem := by simp
  obj := fun i h st b hb => by
    obtain ⟨⟨old, he⟩, ⟨o, ho, hc, hd⟩, _⟩ := st
    have e' : b = e ∨ b = it := by simpa using hb
    rcases e' with z | z
    · rw [z]; exact ⟨_, he, fun v q => nomatch q⟩
    · rw [z]; exact ⟨o, ho, fun v q => by rw [hd] at q; cases q⟩
  keep := fun i h h' st k => let ⟨⟨old, he⟩, hi, hne⟩ := st; ⟨⟨old, k e (by simp) _ he⟩, hi.at fun o q => k it (by simp) o q, hne⟩
  item := by
    intro X hP hw hK hc i pins s σ H E I hf st hg
    subst hP hw hK
    obtain ⟨⟨old, he⟩, hit, hne, hai, hae⟩ := st
    obtain ⟨xs, x, hq, hx⟩ := hg
    obtain ⟨its, rv, p, hz⟩ := I.tuple hq
    obtain ⟨u, hu, ru⟩ := rv.get hx
    have hlt : i < its.toArray.size := by
      have := (List.getElem?_eq_some_iff.mp hu).1
      simpa using this
    have hel : e < s.heap.objs.size := Heap.lt_size he
    have hil : it < s.heap.objs.size := by obtain ⟨_, q, _⟩ := hit; exact Heap.lt_size q
    have ht : s.heap.IsTuple a its.toArray := p
    refine wpAny_pyNext_enum_itemD (Draws.tuple (A := X.A.in1) (I.ok.hd hc) it a hai its.toArray) he ⟨hit, ht⟩ hlt hne (by simp [hne, Ne.symm hae]) fun y h' tk hy ho hst' hT hsz hk => ?_
    have ey : y = u := by
      have h1 : its.toArray[i]? = some y := hy
      have h2 : its.toArray[i]? = some u := by simpa using hu
      rw [h1] at h2; exact Option.some.inj h2
    subst ey
    refine ⟨_, rfl, wpAny_letOwnedTupleGo_enum (s := { s with heap := h', toks := tk + 1 }) ho fun h'' he' sb => ?_⟩
    have hT2 : h''.get? s.heap.objs.size = some { cls := .type "tuple", data := .seq #[.int i tk, y] } := (sb.2 _ (Nat.ne_of_gt hel)).trans hT
    have new : ObjOk X.prog X.w (upd H s.heap.objs.size (.tup [.int (i : Nat), x])) h'' s.heap.objs.size (.tup [.int (i : Nat), x]) :=
      ⟨by show 2 ≤ sizeLine; decide, [.int i tk, y], .cons ⟨_, rfl⟩ (.cons ru .nil), ⟨_, hT2, rfl, _, rfl⟩⟩
    have I1 : Inv X pins σ (upd H s.heap.objs.size (.tup [.int (i : Nat), x])) { s with heap := h'', toks := tk + 1 } :=
      I.turnedNew (ch := [e, it]) (fun b ob hb q => (sb.2 b (fun z => hb (by simp [z]))).trans (hk b ob (fun z => hb (by simp [z])) (fun z => hb (by simp [z])) q)) hf (Nat.le_refl _) new
    refine ⟨.ref s.heap.objs.size, _, I1, rfl, ⟨_, x, rfl, I.hok.fresh (Nat.le_refl _), rfl, fun ys hy => by rw [I.tuple_inj hy hq]; exact hx⟩, ⟨⟨y, ?_⟩, hst'.1.at fun o q => (sb.2 it (Ne.symm hne)).trans q, hne, hai, hae⟩, fun b hb => ?_⟩
    · have e1 : ((i + 1 : Nat) : Int) = (i : Int) + 1 := by omega
      rw [e1]; exact he'
    · have hb' : b < s.heap.objs.size := by
        have e' : b = e ∨ b = it := by simpa using hb
        rcases e' with z | z
        · rw [z]; exact hel
        · rw [z]; exact hil
      rw [upd_ne (Nat.ne_of_lt hb')]
      exact (hf b hb).1
  done := by
    intro X hP hw hK hc i pins s σ H E I hf st hg
    subst hP hw hK
    obtain ⟨⟨old, he⟩, hit, hne, hai, hae⟩ := st
    obtain ⟨xs, hq, hx⟩ := hg
    obtain ⟨its, rv, p, hz⟩ := I.tuple hq
    obtain ⟨f0, f1, f2, f3, f4, f5⟩ := hf it (by simp)
    have hl := rv.length
    exact enumT_end (I.ok.hd hc) he hit p (by simp; omega) fun h' eb => ⟨rfl, I.turned (t' := s.toks) (fun b o hb q => eb b o hb q) f0 f1 f3 f4 f5⟩
  self := fun A i s Q E st h => let ⟨⟨_, he⟩, _⟩ := st; wpAny_pyIter_enum he h
def iEnumT (K : PySem.W.Frag) (ta : TA) : TI := fun σ H R => ta σ H fun vs H1 => ∃ a xs, vs = [.ref a] ∧ SqT K H1 a xs ∧ R (IteT K a) H1
theorem pi_enumT {X : Cx} {e : Expr} {ta : TA} {p pos tpos : Pos} {elts : List Expr} {kk : Nat} (hg : Gl X "enumerate") (hm : X.mg "enumerate" = none) (ha : PA X [e] ta) (hs : starEach [e] X.env = [(false, eval e X.env)] := by rfl) :
    PI X (.Tuple elts kk tpos) (.Call (.Name "enumerate" p) [e] [] pos) (iEnumT X.K ta) := by
  refine ⟨fun pins s σ H R I h => ?_⟩
  refine Call_ (ld_blt I hg hm boot_enumerate (PyProof.Rows.callWith_type1 (thn (ha.run pos pins s σ H _ I h) fun us s1 ⟨vs, H1, I1, r1, q1⟩ => ?_) hs rfl))
  obtain ⟨a, xs, ex, hq, q⟩ := q1
  subst ex
  cases r1 with
  | cons r rr =>
    cases rr
    cases r
    obtain ⟨its, rv, p', hz⟩ := I1.tuple hq
    have hal : a < s1.heap.objs.size := by obtain ⟨_, z, _⟩ := p'; exact Heap.lt_size z
    refine call_enum1 (begins_tuple a its.toArray) p' fun h' he hit hsz hk => wpAny_pyIter_enum he ?_
    have I2 : Inv X pins σ H1 { s1 with heap := h' } := I1.kept (t' := s1.toks) hk
    refine ⟨s1.heap.objs.size + 1, [s1.heap.objs.size + 1, s1.heap.objs.size], _, _, H1, rfl, I2, turn_enumT a (s1.heap.objs.size + 1) s1.heap.objs.size, ⟨⟨.none, he⟩, ⟨_, hit, rfl, rfl⟩, Nat.succ_ne_self _, Nat.ne_of_lt hal, Nat.ne_of_lt (Nat.lt_succ_of_lt hal)⟩, fun b hb => ?_, q⟩
    have e' : b = s1.heap.objs.size + 1 ∨ b = s1.heap.objs.size := by simpa using hb
    have hle : s1.heap.objs.size ≤ b := by
      rcases e' with z | z
      · rw [z]; exact Nat.le_add_right _ _
      · rw [z]; exact Nat.le_refl _
    exact I1.fpOk hle (I1.hok.fresh hle)
end Pe
end

section
set_option linter.all false
set_option maxRecDepth 100000
set_option maxHeartbeats 1000000
/-! t.index(x), flat items. -/
namespace Pe
open PySem PySem.Spec PyProof.Rows L2
def rIndexT (K : PySem.W.Frag) : V → List V → Hp → VK → Prop := fun x xs H Q => ∃ (a : Addr) (ys : List V) (y : V) (j : Nat) (z : V), x = V.ref a ∧ xs = [y] ∧ SqT K H a ys ∧ flatV y = true ∧ ys.all flatV = true ∧ ys[j]? = some z ∧ eqV z y = true ∧
  (∀ (m : Nat) (z' : V), m < j → ys[m]? = some z' → eqV z' y = false) ∧ Q (.int (j : Nat)) H
theorem mt_indexT {X : Cx} : MtR X "tuple.index" (rIndexT X.K) := by
  intro pins s σ H x xs v us Q I rx rxs h
  obtain ⟨a, ys, y, j, z, rfl, rfl, hs, fy, fys, hz, hzj, hno, q⟩ := h
  cases rx
  cases rxs with
  | cons ry rt =>
    rename_i uy ut
    cases rt
    obtain ⟨its, rv, pl, hlen⟩ := I.tuple hs
    obtain ⟨⟨cls, dd, dt, sl⟩, ho, hc, n, hd⟩ := pl
    simp only at hc hd
    subst hc hd
    obtain ⟨u, hu, ru⟩ := rv.get hz
    obtain ⟨hjl, hje⟩ := List.getElem?_eq_some_iff.mp hu
    have hvl := rv.length
    have hj : j < its.toArray.size := by simpa using hjl
    refine call_meets PySem.F.slot_tuple_index ⟨_, ho, rfl⟩ PySem.F.entry_tuple_index (PySem.F.args_tuple_index_2 _ _)
      (TI.tuple_indexAt a its.toArray n dd sl uy (eqU y) j hj ?_ ?_) ⟨ho, fun u' hu' => mem_eqAt ry fy rv fys u' (by simpa using hu'), ?_⟩
    · have e1 : its.toArray[j] = u := by simpa using hje
      rw [e1, eqU_of ru (flat_at fys hz)]
      exact hzj
    · intro m hm hmj
      have hml : m < its.length := by simpa using hm
      have hmy : m < ys.length := by omega
      have hy' : ys[m]? = some ys[m] := List.getElem?_eq_getElem hmy
      obtain ⟨u2, hu2, ru2⟩ := rv.get hy'
      obtain ⟨_, hme⟩ := List.getElem?_eq_some_iff.mp hu2
      have e1 : its.toArray[m] = u2 := by simpa using hme
      rw [e1, eqU_of ru2 (flat_at fys hy')]
      exact hno m _ hmj hy'
    · exact ⟨.int (j : Nat), H, I.tok _, ⟨_, rfl⟩, q⟩
end Pe
end

section
set_option linter.all false
set_option maxRecDepth 100000
set_option maxHeartbeats 1000000
/-! Tuples whose object is known (frz): made, and their methods called. -/
namespace Pe
open PySem PySem.Spec PyProof.Rows L2
/-- a tuple that has no dict -/
def FT (H : Hp) (a : Addr) (xs : List V) : Prop := ∃ o, H a = some (.frz o (.tup xs)) ∧ o.dict = none
theorem FT.sqT {K : PySem.W.Frag} {H : Hp} {a : Addr} {xs : List V} (h : FT H a xs) : SqT K H a xs := let ⟨o, e, _⟩ := h; .inl (.inr ⟨o, e⟩)
def tTupF (t : TA) : TE := fun σ H Q => t σ H fun xs H1 => xs.length ≤ sizeLine ∧ ∀ p o, H1 p = none → o.dict = none → Q (.ref p) (upd H1 p (.frz o (.tup xs)))
section
variable {X : Cx} {pos : Pos} {es : List Expr} {t : TA}
/-- (e, ..) -/
theorem pe_tupF {x1} (h : PA X es t) : PE X (.Tuple es x1 pos) (tTupF t) := by
  refine ⟨fun pins s σ H Q I hq => ?_⟩
  refine wpAny_Tuple_spliced (thn (h.run pos pins s σ H _ I hq) fun us s1 ⟨xs, H1, I1, r, z, q⟩ => ⟨by rw [← r.length]; exact z, ?_⟩)
  have hf : H1 s1.heap.objs.size = none := I1.hok.fresh (Nat.le_refl _)
  have hg : (s1.heap.push { cls := .type "tuple", data := .seq us.toArray }).get? s1.heap.objs.size = some { cls := .type "tuple", data := .seq us.toArray } := Heap.get?_push_size _ rfl
  refine ⟨.ref s1.heap.objs.size, upd H1 s1.heap.objs.size (.frz { cls := .type "tuple", data := .seq us.toArray } (.tup xs)), I1.laid (t' := s1.toks) (fun b u e => Heap.get?_push_of_some _ e) (Nat.le_refl _) ?_, rfl, q _ _ hf rfl⟩
  exact ⟨hg, z, us, r, ⟨_, hg, rfl, _, rfl⟩⟩
/-- tuple(a list) -/
theorem call_tupleF : CallR X (.type "tuple") (fun xs H Q => ∃ p ys, xs = [.ref p] ∧ SqL X.K H p ys ∧ ∀ l o, H l = none → o.dict = none → Q (.ref l) (upd H l (.frz o (.tup ys)))) := by
  intro pins s σ H xs us Q I r h
  obtain ⟨p, ys, rfl, hq, q⟩ := h
  obtain ⟨u, rfl, rx⟩ := vals1 r
  cases rx
  obtain ⟨its, r', pl, hz⟩ := I.list hq
  have hlen := r'.length
  refine call_tuple_list pl.isList (fun h' kp => ?_) (by simp only [List.size_toArray] <;> omega)
  have I1 : Inv X pins σ H { s with heap := h' } := I.kept (t' := s.toks) kp
  have hg : (h'.push { cls := .type "tuple", data := .seq its.toArray }).get? h'.objs.size = some { cls := .type "tuple", data := .seq its.toArray } := Heap.get?_push_size _ rfl
  have I2 : Inv X pins σ (upd H h'.objs.size (.frz { cls := .type "tuple", data := .seq its.toArray } (.tup ys))) { s with heap := h'.push { cls := .type "tuple", data := .seq its.toArray } } :=
    I1.laid (t' := s.toks) (fun b o e => Heap.get?_push_of_some _ e) (Nat.le_refl _) ⟨hg, hz, its, r', ⟨_, hg, rfl, _, rfl⟩⟩
  exact ⟨.ref h'.objs.size, _, I2, rfl, q _ _ (I1.hok.fresh (Nat.le_refl _)) rfl⟩
def tBMT (r : V → List V → Hp → VK → Prop) (to : TE) (t : TA) : TE := fun σ H Q => to σ H fun x H1 => (∃ a xs, x = .ref a ∧ FT H1 a xs) ∧ t σ H1 fun xs H2 => r x xs H2 Q
variable {o e : Expr} {to : TE} {name : Str} {apos cpos : Pos} {id : String} {r : V → List V → Hp → VK → Prop}
/-- t.m(e, ..), t such a tuple -/
theorem pe_bmT (pa : PlainAttrs "tuple") (slot : Slot "tuple" name id) (hty : typeOf (.builtin id) = pure (.type "method_descriptor")) (hm : MtR X id r) (ho : PE X o to) (ha : PA X (e :: es) t)
    (hbase : attributeBase o name X.env (eval o X.env) = eval o X.env := by rfl)
    (hfew : ((backTo cpos (starEach (e :: es) X.env)).all (fun x => !x.1) && (backToKw cpos (keywordEach [] X.env)).all (fun x => x.1.isSome)
      && decide ((e :: es).length + ([] : List Keyword).length + (if ([] : List Keyword).isEmpty then 0 else 1) < 30)) = true := by rfl)
    (hline : (apos.endLine == cpos.line) = true := by rfl) (hs : starEach (e :: es) X.env = (false, eval e X.env) :: starEach es X.env := by rfl) (hplain : (backTo cpos (starEach es X.env)).any (·.1) = false := by rfl) :
    PE X (.Call (.Attribute o name apos) (e :: es) [] cpos) (tBMT r to t) := by
  refine ⟨fun pins s σ H Q I h => ?_⟩
  refine wpAny_Call_method_late hbase hfew hline rfl (thn (ho.run pins s σ H _ I h) fun v s1 ⟨x, H1, I1, r1, ty, q1⟩ => ?_)
  obtain ⟨a, xs, rfl, ob, ha1, hd1⟩ := ty
  cases r1
  obtain ⟨hob, _, its, rv, ob', hob', hc, _⟩ := (show ObjOk X.prog X.w H1 s1.heap a (.frz ob (.tup xs)) from I1.hok a _ ha1)
  rw [hob] at hob'; cases hob'
  refine ⟨"tuple", id, pa, slot, hty, ⟨ob, hob, hc⟩, fun b e => by cases e; exact ⟨ob, hob, hd1⟩, ?_⟩
  have hA := ha.run cpos pins s1 σ H1 _ I1 q1
  rw [hs] at hA ⊢
  refine Calls.callWith_builtin (by show (false || (backTo cpos (starEach es X.env)).any (·.1)) = false; rw [hplain] <;> rfl) (Calls.evalArgs_plain ?_)
  exact thn hA fun us s2 ⟨vs, H2, I2, r2, q2⟩ => hm pins s2 σ H2 (.ref a) vs (.ref a) us Q I2 rfl r2 q2
end
end Pe
end

section
set_option linter.all false
set_option maxRecDepth 100000
set_option maxHeartbeats 1000000
/-! block_ends. -/
namespace Pd
open PySem PySem.Spec PyProof.Rows L2
theorem Cf_SqT {K : PySem.W.Frag} {H H' : Hp} {a : Addr} {xs : List V} (e : Cf.Same H H') (h : SqT K H a xs) : SqT K H' a xs := by
  rcases h with (h | ⟨o, h⟩) | h
  · exact .inl (.inl (e _ _ h))
  · exact .inl (.inr ⟨o, e _ _ h⟩)
  · exact .inr h
/-- a for's reading by an invariant -/
theorem for_inv {J : It} {σ0 : L2.St} {H0 : Hp} {n : Nat} {fin : L2.St → Hp → Prop} {step : (L2.St → Hp → Prop) → L2.St → V → Hp → Prop} (Iv : Nat → L2.St → Hp → Prop) (h0 : Iv 0 σ0 H0) (hstop : ∀ σ H, Iv n σ H → J.stop n H ∧ fin σ H) (hgo : ∀ i σ H, i < n → Iv i σ H → J.go i H)
    (hstep : ∀ (i : Nat) (σ : L2.St) (H : Hp) (x : V) (H' : Hp) (Nx : L2.St → Hp → Prop), i < n → Iv i σ H → J.yld i H x H' → (∀ σ' H'', Iv (i + 1) σ' H'' → Nx σ' H'') → step Nx σ x H') :
    ∃ W : Nat → Nat → L2.St → Hp → Prop, (∃ m, W 0 m σ0 H0) ∧ ∀ (i m : Nat) (σ : L2.St) (H : Hp), W i m σ H → (J.stop i H ∧ fin σ H) ∨ (J.go i H ∧ ∃ Nx : L2.St → Hp → Prop, (∀ σ' H', Nx σ' H' → ∃ m', m' < m ∧ W (i + 1) m' σ' H') ∧ ∀ (x : V) (H' : Hp), J.yld i H x H' → step Nx σ x H') := by
  refine ⟨fun i m σ H => i + m = n ∧ Iv i σ H, ⟨n, Nat.zero_add n, h0⟩, fun i m σ H hW => ?_⟩
  obtain ⟨e, hv⟩ := hW
  by_cases hi : i < n
  · refine .inr ⟨hgo i σ H hi hv, fun σ' H' => Iv (i + 1) σ' H', fun σ' H' h => ⟨m - 1, by omega, by omega, h⟩, fun x H' hy => ?_⟩
    exact hstep i σ H x H' _ hi hv hy fun σ' H'' h => h
  · have e' : i = n := by omega
    subst e'
    exact .inl (hstop σ H hv)
section
variable {P : Program} {w : World} {K : PySem.W.Frag} {mg : Str → Option Value} {base : Heap}
abbrev sBE : Stmt := topS 20
theorem scBE : FnScope ["places", "found", "most", "index", "place"] ["places"] (defScope sBE) := ⟨rfl, rfl, rfl, by decide +kernel, rfl, by decide +kernel, by decide +kernel⟩
theorem ok_block_ends (B : TB mg) (D : Dfn K mg "block_ends" sBE ["places"]) : Cal P w K mg base 1 "block_ends" ["places"] (Pf.spBE K) := by
  refine D.cal scBE (fun vs H Q E h => ?_) (fun f cdv A outer s H vs Q E hr h => ?_)
  · obtain ⟨a, xs, rfl, _⟩ := h; rfl
  · obtain ⟨a, xs, rfl, ha, hlen, q⟩ := h
    refine ⟨_, pss_cons (ps_par (i := 1) (j := 2) (by rfl) scBE.nd rfl rfl (by decide) rfl rfl (pa_cons (pe_lst pa_nil) (pa_cons (pe_un un_neg pe_int) pa_nil)) (by rfl))
      (pss_cons (ps_for PassesOwn.never rfl (Pe.pi_enumT (by rfl) B.enumerate (pa_cons (pv 0) pa_nil)) (pg_tup rfl (pgs_cons (pg_name (i := 3) scBE.nd rfl (.inl rfl)) (pgs_cons (pg_name (i := 4) scBE.nd rfl (.inl rfl)) pgs_nil)))
        (pss_cons (ps_set (i := 2) scBE.nd rfl (.inl rfl) (pe_callB (call_max2 rfl) (by rfl) B.max (by decide +kernel) (pa_cons (pv 2) (pa_cons (pv 4) pa_nil))))
        (pss_one (ps_if (pt_cmpR op_eq (pv 2) (pv 3) (nomark _)) (pss_one (ps_expr (pe_bm PySem.F.plainAttrs_list PySem.F.slot_list_append PySem.F.type_list_append mt_append (pv 1) (pa_cons (pe_op op_add (pv 3) pe_int) pa_nil)))) pss_nil))))
      (pss_one (ps_ret (pv 1)))), ?_⟩
    refine ⟨Nat.zero_le _, fun o no => ?_⟩
    refine ⟨1, rfl, .ref o, .int (-1), rfl, ?_⟩
    have s1 : Cf.Same H (upd H o (.lst [])) := Pf.same_upd no
    have sq : ∀ {H' : Hp}, Cf.Same H H' → SqT K H' a (xs.map V.int) := fun {H'} sm => Cf_SqT sm ha
    refine ⟨.ref a, rfl, a, xs.map V.int, rfl, sq s1, ?_⟩
    refine for_inv (n := xs.length) (fun i σ H' => ∃ m es y3 y4, σ = [some (.ref a), some (.ref o), some (.int m), y3, y4] ∧ Cf.Same H H' ∧ H' o = some (.lst (es.map V.int)) ∧ es ++ Pf.beGo i m (xs.drop i) = Pf.blockEnds xs ∧ es.length ≤ i)
      ⟨-1, [], none, none, rfl, s1, upd_same, rfl, Nat.le_refl _⟩ (fun σ H' hv => ?_) (fun i σ H' hi hv => ?_) (fun i σ H' x H'' Nx hi hv hy hN => ?_)
    · obtain ⟨m, es, y3, y4, rfl, sm, ho, he, hl⟩ := hv
      refine ⟨⟨_, sq sm, by rw [List.length_map]; exact Nat.le_refl _⟩, .ref o, rfl, ?_⟩
      rw [List.drop_length] at he
      have : es = Pf.blockEnds xs := by rw [← he]; exact (List.append_nil es).symm
      exact q H' o sm no (by rw [← this]; exact ho)
    · obtain ⟨m, es, y3, y4, rfl, sm, ho, he, hl⟩ := hv
      exact ⟨_, .int xs[i], sq sm, by rw [List.getElem?_map, List.getElem?_eq_getElem hi]; rfl⟩
    · obtain ⟨m, es, y3, y4, rfl, sm, ho, he, hl⟩ := hv
      obtain ⟨T, y, rfl, nT, rfl, hy⟩ := hy
      have ey : y = .int xs[i] := by
        have := hy _ (sq sm)
        rw [List.getElem?_map, List.getElem?_eq_getElem hi] at this
        exact (Option.some.inj this).symm
      subst ey
      have nTo : o ≠ T := ne_of_none ho nT
      have sT := Pf.same_upd (o := .tup [.int (i : Nat), .int xs[i]]) nT
      refine ⟨T, [.int (i : Nat), .int xs[i]], rfl, .inl (.inl upd_same), rfl, .int (i : Nat), [.int xs[i]], rfl, .int xs[i], [], rfl, rfl, ?_⟩
      refine ⟨.int m, rfl, .int xs[i], rfl, m, xs[i], rfl, ?_⟩
      have em : (if xs[i] > m then xs[i] else m) = max m xs[i] := by
        rw [Int.max_def]
        by_cases h : xs[i] > m
        · rw [if_pos h, if_pos (by omega)]
        · rw [if_neg h]
          split <;> omega
      rw [em]
      have hd : xs.drop i = xs[i] :: xs.drop (i + 1) := List.drop_eq_getElem_cons hi
      rw [hd] at he
      have hg : Pf.beGo (i : Int) m (xs[i] :: xs.drop (i + 1)) = (if max m xs[i] = (i : Int) then [(i : Int) + 1] else []) ++ Pf.beGo ((i : Int) + 1) (max m xs[i]) (xs.drop (i + 1)) := rfl
      rw [hg] at he
      have hc : ((i + 1 : Nat) : Int) = (i : Int) + 1 := by omega
      have hoT : (upd H' T (.tup [.int (i : Nat), .int xs[i]])) o = some (.lst (es.map V.int)) := sT _ _ ho
      refine ⟨.int (max m xs[i]), rfl, .int (i : Nat), rfl, rfl, _, rfl, ite2 (fun e => ?_) (fun e => ?_)⟩
      · have e' : max m xs[i] = (i : Int) := V.int.inj (of_decide_eq_true e)
        rw [if_pos e'] at he
        refine ⟨.ref o, rfl, .inl ⟨rfl, _, .inl (.inl hoT)⟩, .int (i : Nat), rfl, (i : Int), 1, rfl, rfl, o, _, _, rfl, rfl, hoT, ?_, ?_⟩
        · rw [List.length_map]; exact Pf.small1000' (by omega)
        · refine hN _ _ ⟨max m xs[i], es ++ [(i : Int) + 1], _, _, rfl, fun b z eb => ?_, ?_, ?_, ?_⟩
          · rw [upd_ne (ne_of_none eb no)]
            exact sT _ _ (sm _ _ eb)
          · rw [upd_same, List.map_append]; rfl
          · rw [hc, List.append_assoc]; exact he
          · rw [List.length_append]; show es.length + 1 ≤ i + 1; omega
      · have e' : ¬ max m xs[i] = (i : Int) := fun z => e (decide_eq_true (congrArg V.int z))
        rw [if_neg e'] at he
        exact hN _ _ ⟨max m xs[i], es, _, _, rfl, sm.trans sT, hoT, by rw [hc]; exact he, by omega⟩
end
end Pd
end

section
set_option linter.all false
set_option maxRecDepth 100000
set_option maxHeartbeats 1000000
/-! next_places. -/
namespace Pd
open PySem PySem.Spec PyProof.Rows L2
def ixMax (p : List Int) : Nat := p.idxOf ((p.length : Int) - 1)
def lastI (p : List Int) : Int := p.getLastD 0
def nextL (p : List Int) : List Int := p.take (ixMax p + 1) ++ [lastI p] ++ (p.drop (ixMax p + 1)).take (p.length - 1 - (ixMax p + 1))
def bumpAt (k : Nat) (l : Int) (i : Nat) (x : Int) : Int := if i = k then l + 1 else x + (if l < x then 1 else 0)
def nextU (p : List Int) : List Int := p.mapIdx (bumpAt (ixMax p) (lastI p))
def nextP (low : Bool) (p : List Int) : List Int := if low then nextL p else nextU p
def kindS (low : Bool) : Str := if low then "lower" else "upper"
section
variable {P : Program} {w : World} {K : PySem.W.Frag} {mg : Str → Option Value} {base : Heap}
abbrev sNX : Stmt := topS 32
abbrev NNX : List Str := ["places", "kind", "last", "greatest", "index", "at", "one"]
theorem scNX : FnScope NNX ["places", "kind"] (defScope sNX) := ⟨rfl, rfl, rfl, by decide +kernel, rfl, by decide +kernel, by decide +kernel⟩
def spNX : Sp := fun vs H Q _ => ∃ (a : Addr) (p : List Int) (low : Bool), vs = [.ref a, .str (kindS low)] ∧ Pe.FT H a (p.map V.int) ∧ p.length ≤ 1000 ∧ ixMax p + 1 < p.length ∧
  ∀ H' t, Cf.Same H H' → H t = none → Pe.FT H' t ((nextP low p).map V.int) → Q (.ref t) H'
theorem ok_next_places (B : TB mg) (D : Dfn K mg "next_places" sNX ["places", "kind"]) : Cal P w K mg base 1 "next_places" ["places", "kind"] spNX := by
  refine D.cal scNX (fun vs H Q E h => ?_) (fun f cdv A outer s H vs Q E hr h => ?_)
  · obtain ⟨a, p, low, rfl, _⟩ := h; rfl
  · obtain ⟨a, p, low, rfl, ha, hlen, hix, q⟩ := h
    refine ⟨_, pss_cons (ps_asg (pe_tup (pa_cons (pe_ix ix_tup (pv 0) (pe_un un_neg pe_int) (fun _ _ => rfl)) (pa_cons (pe_op op_sub (pe_callB call_len_seq (by rfl) B.len PySem.boot_len (pa_cons (pv 0) pa_nil)) pe_int) pa_nil)))
        (pg_tup rfl (pgs_cons (pg_name (i := 2) scNX.nd rfl (.inr rfl)) (pgs_cons (pg_name (i := 3) scNX.nd rfl (.inl rfl)) pgs_nil))))
      (pss_cons (ps_set (i := 4) scNX.nd rfl (.inr rfl) (Pe.pe_bmT PySem.F.plainAttrs_tuple PySem.F.slot_tuple_index PySem.F.type_tuple_index Pe.mt_indexT (pv 0) (pa_cons (pv 3) pa_nil)))
      (pss_cons (ps_if (pt_cmpR op_eq (pv 1) pe_str (nomark _))
        (pss_one (ps_ret (Pe.pe_tupF (StX.pa_star (pe_slice sl_tup (pv 0) po_none (po_some (pe_op op_add (pv 4) pe_int))) (pa_cons (pv 2) (StX.pa_star (pe_slice sl_tup (pv 0) (po_some (pe_op op_add (pv 4) pe_int)) (po_some (pv 3))) pa_nil)))))) pss_nil)
      (pss_one (ps_ret (pe_callTy Pe.call_tupleF (by rfl) B.tuple (by decide +kernel) (pa_cons
        (pe_lc (own := [("at", 5), ("one", 6)]) (g := gTup K 2 (gCons (gName 5) (gCons (gName 6) gNil))) (tt := tYes) rfl scNX.nd (Pe.pi_enumT (by rfl) B.enumerate (pa_cons (pv 0) pa_nil)) (blkOk_by (N := NNX) (sc := defScope sNX) (by decide +kernel))
          (fun _ _ _ _ _ => pg_tup rfl (pgs_cons (pg_name (i := 5) scNX.nd rfl (Or.inl rfl)) (pgs_cons (pg_name (i := 6) scNX.nd rfl (Or.inl rfl)) pgs_nil))) (fun _ _ _ _ _ => pts_nil)
          (fun _ _ _ _ _ => pe_ifExp (pt_cmpR op_eq (pv 5) (pv 4) (nomark _)) (pe_op op_add (pv 2) pe_int) (pe_op op_add (pv 6) (pe_callTy call_int1 (by rfl) B.int (by decide +kernel) (pa_cons (pe_cmpR op_gt (pv 6) (pv 2) (nomark _)) pa_nil))))) pa_nil)))))), ?_⟩
    have hp0 : p ≠ [] := fun z => by rw [z] at hix; exact absurd hix (Nat.not_lt_zero _)
    have haT : SqT K H a (p.map V.int) := ha.sqT
    have hlast : atI (p.map V.int) (-1) = some (.int (lastI p)) := by
      have e : p = p.dropLast ++ [lastI p] := by
        unfold lastI
        rw [List.getLastD_eq_getLast?, List.getLast?_eq_getLast hp0]
        exact (List.dropLast_concat_getLast hp0).symm
      have e2 : p.map V.int = p.dropLast.map V.int ++ [.int (lastI p)] := (congrArg (List.map V.int) e).trans (List.map_append ..)
      rw [e2]
      exact atI_last _ _
    refine ⟨.ref a, rfl, 1, rfl, a, p.map V.int, -1, .int (lastI p), rfl, rfl, haT, hlast, ?_⟩
    refine ⟨.ref a, rfl, a, p.map V.int, rfl, .inr haT, ((p.map V.int).length : Int), 1, rfl, rfl, by show 2 ≤ sizeLine; decide, fun T nT => ?_⟩
    refine ⟨T, [.int (lastI p), .int (((p.map V.int).length : Int) - 1)], rfl, .inl (.inl upd_same), rfl, _, [_], rfl, _, [], rfl, rfl, ?_⟩
    have s1 : Cf.Same H (upd H T (.tup [.int (lastI p), .int (((p.map V.int).length : Int) - 1)])) := Pf.same_upd nT
    have ft1 : Pe.FT (upd H T (.tup [.int (lastI p), .int (((p.map V.int).length : Int) - 1)])) a (p.map V.int) := let ⟨o, e, d⟩ := ha; ⟨o, s1 _ _ e, d⟩
    have hk : ixMax p < p.length := by omega
    have hat : p[ixMax p]? = some ((p.length : Int) - 1) := by
      rw [List.getElem?_eq_getElem hk]
      exact congrArg some (List.getElem_idxOf hk)
    refine ⟨.ref a, rfl, ⟨a, _, rfl, ft1⟩, .int (((p.map V.int).length : Int) - 1), rfl, ?_⟩
    refine ⟨a, p.map V.int, .int (((p.map V.int).length : Int) - 1), ixMax p, .int ((p.length : Int) - 1), rfl, rfl, ft1.sqT, rfl, ?_, ?_, ?_, ?_, ?_⟩
    · rw [List.all_map]; exact List.all_eq_true.mpr fun _ _ => rfl
    · rw [List.getElem?_map, hat]; rfl
    · rw [List.length_map]; exact beq_self_eq_true ((p.length : Int) - 1)
    · intro m z' hm hz
      have hmp : m < p.length := by omega
      rw [List.getElem?_map, List.getElem?_eq_getElem hmp] at hz
      cases hz
      rw [List.length_map]
      refine beq_eq_false_iff_ne.mpr fun z => ?_
      have hne : (p[m] == ((p.length : Int) - 1)) = false := List.not_of_lt_findIdx (p := (· == ((p.length : Int) - 1))) hm
      exact (beq_eq_false_iff_ne.mp hne) z
    · have hL : ((p.map V.int).length : Int) = (p.length : Int) := by rw [List.length_map]
      have hlow : ∀ b : Bool, decide (V.str (kindS b) = V.str "lower") = b := fun b => by cases b <;> decide +kernel
      refine ⟨.str (kindS low), rfl, rfl, _, rfl, ?_⟩
      rw [hlow low]
      cases low with
      | true =>
        refine iteT ?_
        have n1 : ((ixMax p : Nat) : Int) + 1 = ((ixMax p + 1 : Nat) : Int) := by omega
        have hlm : (p.map V.int).length = p.length := List.length_map ..
        refine ⟨.ref a, rfl, .int (ixMax p : Nat), rfl, (ixMax p : Nat), 1, rfl, rfl, ((ixMax p : Nat) : Int) + 1, rfl, a, p.map V.int, rfl, ft1.sqT, fun z => ?_, fun c1 nc1 => ?_⟩
        · have := z.2
          rw [n1, HT.sIx_nat, hlm] at this
          omega
        · have s2 := s1.trans (Pf.same_upd (o := .tup (cutV (p.map V.int) none (some (((ixMax p : Nat) : Int) + 1)))) nc1)
          have ft2 : Pe.FT _ a (p.map V.int) := let ⟨o, e, d⟩ := ha; ⟨o, s2 _ _ e, d⟩
          refine ⟨c1, _, rfl, .inl (.inl (.inl upd_same)), .int (lastI p), rfl, ?_⟩
          refine ⟨.ref a, rfl, .int (ixMax p : Nat), rfl, (ixMax p : Nat), 1, rfl, rfl, ((ixMax p : Nat) : Int) + 1, rfl, .int (((p.map V.int).length : Int) - 1), rfl, ((p.map V.int).length : Int) - 1, rfl, a, p.map V.int, rfl, ft2.sqT, fun z => ?_, fun c2 nc2 => ?_⟩
          · have := z.1
            rw [n1, HT.sIx_nat, hlm] at this
            omega
          · have s3 := s2.trans (Pf.same_upd (o := .tup (cutV (p.map V.int) (some (((ixMax p : Nat) : Int) + 1)) (some (((p.map V.int).length : Int) - 1)))) nc2)
            have e1 : cutV (p.map V.int) none (some (((ixMax p : Nat) : Int) + 1)) = (p.take (ixMax p + 1)).map V.int := by
              rw [n1, Pf.cut_take _ _ (by rw [hlm]; omega), List.map_take]
            have n2 : ((p.map V.int).length : Int) - 1 = ((p.length - 1 : Nat) : Int) := by rw [hlm]; omega
            have e2 : cutV (p.map V.int) (some (((ixMax p : Nat) : Int) + 1)) (some (((p.map V.int).length : Int) - 1)) = ((p.drop (ixMax p + 1)).take (p.length - 1 - (ixMax p + 1))).map V.int := by
              rw [n1, n2]
              unfold cutV
              rw [HT.sIx_nat, HT.sIx_nat, hlm, Nat.min_eq_left (by omega), Nat.min_eq_left (by omega), List.map_take, List.map_drop]
            refine ⟨c2, _, rfl, .inl (.inl (.inl upd_same)), ?_, fun t o nt od => ?_⟩
            · rw [e1, e2]
              refine Nat.le_of_lt (Pf.small1000' ?_)
              simp only [List.length_append, List.length_map, List.length_take, List.length_drop, List.length_cons, List.length_nil]
              omega
            · rw [e1, e2] at s3 nt ⊢
              refine q _ t (s3.trans (Pf.same_upd nt)) ?_ ⟨o, ?_, od⟩
              · cases hh : H t with
                | none => rfl
                | some u =>
                  have := s3 _ _ hh
                  rw [nt] at this; cases this
              · rw [upd_same]
                congr 3
                show _ = (nextL p).map V.int
                unfold nextL
                simp only [List.map_append, List.append_nil, List.append_assoc, List.map_cons, List.map_nil]
                rfl
      | false =>
        refine iteF ?_
        refine ⟨.ref a, rfl, a, p.map V.int, rfl, ft1.sqT, fun D hD => ?_⟩
        have hul : ((nextU p).map V.int).length = p.length := by rw [List.length_map]; unfold nextU; exact List.length_mapIdx
        refine lc_same (n := p.length) (ys := (nextU p).map V.int) hD hul (fun H' sm => ?_) (fun i H' hi sm => ?_) (fun H' sm hl => ?_) (fun i H' x H'' Nx hi sm hd hy hN => ?_)
        · exact ⟨_, (let ⟨o, e, d⟩ := ft1; Pe.FT.sqT ⟨o, sm _ _ e, d⟩ : SqT K H' a (p.map V.int)), by rw [List.length_map]; exact Nat.le_refl _⟩
        · exact ⟨_, .int p[i], (let ⟨o, e, d⟩ := ft1; Pe.FT.sqT ⟨o, sm _ _ e, d⟩ : SqT K H' a (p.map V.int)), by rw [List.getElem?_map, List.getElem?_eq_getElem hi]; rfl⟩
        · refine ⟨D, _, rfl, .inl (.inl hl), fun t o nt od => q _ t ((s1.trans sm).trans (Pf.same_upd nt)) ?_ ⟨o, upd_same, od⟩⟩
          cases hh : H t with
          | none => rfl
          | some u =>
            have := sm _ _ (s1 _ _ hh)
            rw [nt] at this; cases this
        · obtain ⟨T2, y, rfl, nT2, rfl, hy⟩ := hy
          have ey : y = .int p[i] := by
            have := hy _ (let ⟨o, e, d⟩ := ft1; Pe.FT.sqT ⟨o, sm _ _ e, d⟩ : SqT K H' a (p.map V.int))
            rw [List.getElem?_map, List.getElem?_eq_getElem hi] at this
            exact (Option.some.inj this).symm
          subst ey
          have sT := Pf.same_upd (o := .tup [.int (i : Nat), .int p[i]]) nT2
          refine ⟨T2, [.int (i : Nat), .int p[i]], rfl, .inl (.inl upd_same), rfl, .int (i : Nat), [.int p[i]], rfl, .int p[i], [], rfl, rfl, ?_⟩
          refine ⟨rfl, iteT (B := Nx (upd H' T2 (.tup [.int (i : Nat), .int p[i]]))) ?_⟩
          refine ⟨.int (i : Nat), rfl, .int (ixMax p : Nat), rfl, rfl, _, rfl, ?_⟩
          have hgt : ((nextU p).map V.int)[i]? = some (.int (bumpAt (ixMax p) (lastI p) i p[i])) := by
            unfold nextU
            rw [List.getElem?_map, List.getElem?_mapIdx, List.getElem?_eq_getElem hi]; rfl
          have hDT : D ≠ T2 := ne_of_none hd nT2
          have fin : ∀ y : V, y = .int (bumpAt (ixMax p) (lastI p) i p[i]) → ∃ acc, (upd H' T2 (.tup [.int (i : Nat), .int p[i]])) D = some (.lst acc) ∧ acc.length < sizeLine ∧ Nx (upd (upd H' T2 (.tup [.int (i : Nat), .int p[i]])) D (.lst (acc ++ [y]))) := fun y ey => by
            subst ey
            refine ⟨_, sT _ _ hd, Pf.small1000' (by rw [List.length_take]; omega), hN _ (fun b z e => ?_) ?_⟩
            · rw [upd_ne (ne_of_none e hD)]
              exact sT _ _ (sm _ _ e)
            · rw [upd_same, List.take_add_one, hgt]; rfl
          refine ite2 (fun e => ?_) (fun e => ?_)
          · have e' : i = ixMax p := by
              have := V.int.inj (of_decide_eq_true e)
              omega
            refine ⟨.int (lastI p), rfl, lastI p, 1, rfl, rfl, fin _ ?_⟩
            show V.int (lastI p + 1) = _
            unfold bumpAt
            rw [if_pos e']
          · have e' : ¬ i = ixMax p := fun z => e (decide_eq_true (by rw [z]))
            refine ⟨.int p[i], rfl, .int p[i], rfl, .int (lastI p), rfl, p[i], lastI p, rfl, rfl, .inr ⟨decide (lastI p < p[i]), rfl, ?_⟩⟩
            refine ⟨p[i], _, rfl, rfl, fin _ ?_⟩
            unfold bumpAt
            rw [if_neg e']
            by_cases h : lastI p < p[i]
            · rw [decide_eq_true h, if_pos h]; rfl
            · rw [decide_eq_false h, if_neg h]; rfl
end
end Pd
end

section
set_option linter.all false
set_option maxRecDepth 100000
set_option maxHeartbeats 1000000
/-! the law's dice. -/
namespace Pd
open PySem PySem.Spec PyProof.Rows L2
/-- all but d is as it was -/
def SameB (d : Addr) (H H' : Hp) : Prop := ∀ b u, b ≠ d → H b = some u → H' b = some u
def IsDice (H : Hp) (d : Addr) : Prop := ∃ x y z : Int, H d = some (.lst [.int x, .int y, .int z])
section
variable {P : Program} {w : World} {K : PySem.W.Frag} {mg : Str → Option Value} {base : Heap}
abbrev sLR : Stmt := topS 42
abbrev NLR : List Str := ["_law_dice_here", "_law_total", "_law_found", "_law_one", "_law_two"]
theorem scLR : FnScope NLR ["_law_dice_here", "_law_total"] (defScope sLR) := ⟨rfl, rfl, rfl, by decide +kernel, rfl, by decide +kernel, by decide +kernel⟩
def spLR : Sp := fun vs H Q _ => ∃ (d : Addr) (n : Nat), vs = [.ref d, .int n] ∧ IsDice H d ∧ 0 < n ∧ n < 1000 ∧ ∀ (H' : Hp) (r : Nat), SameB d H H' → (∀ b, b ≠ d → H b = none → H' b = none) → IsDice H' d → r < n → Q (.int r) H'
theorem ok_law_roll (B : TB mg) (D : Dfn K mg "_law_roll" sLR ["_law_dice_here", "_law_total"]) : Cal P w K mg base 1 "_law_roll" ["_law_dice_here", "_law_total"] spLR := by
  refine D.cal scLR (fun vs H Q E h => ?_) (fun f cdv A outer s H vs Q E hr h => ?_)
  · obtain ⟨a, n, rfl, _⟩ := h; rfl
  · obtain ⟨d, n, rfl, ⟨x, y, z, hd⟩, hn0, hn, q⟩ := h
    refine ⟨_, pss_cons (ps_if (pt_cmpR op_gt (pe_ix ix_list (pv 0) pe_int (fun _ _ => rfl)) pe_int (nomark _))
        (pss_cons (ps_set (i := 2) scLR.nd rfl (.inl rfl) (pe_op op_mod (pe_callTy call_int1 (by rfl) B.int (by decide +kernel) (pa_cons (pe_ix ix_list (pv 0) pe_int (fun _ _ => rfl)) pa_nil)) (pv 1)))
        (pss_cons (ps_asg (pe_op op_fdiv (pe_ix ix_list (pv 0) pe_int (fun _ _ => rfl)) (pv 1)) (pg_sub (pv 0) pe_int set_list)) (pss_one (ps_ret (pv 2))))) pss_nil)
      (pss_cons (ps_asg (pe_op op_add (pe_ix ix_list (pv 0) pe_int (fun _ _ => rfl)) pe_int) (pg_sub (pv 0) pe_int set_list))
      (pss_cons (ps_set (i := 3) scLR.nd rfl (.inl rfl) (pe_op op_mod (pe_callTy call_int1 (by rfl) B.int (by decide +kernel) (pa_cons (pe_op op_add (pe_ix ix_list (pv 0) pe_int (fun _ _ => rfl)) (pe_op op_mul pe_int (pe_ix ix_list (pv 0) pe_int (fun _ _ => rfl)))) pa_nil)) pe_int))
      (pss_cons (ps_set (i := 4) scLR.nd rfl (.inl rfl) (pe_op op_add (pe_op op_mul (pe_op op_mod (pe_callTy call_int1 (by rfl) B.int (by decide +kernel) (pa_cons (pe_op op_add (pe_op op_mul (pv 3) (pv 3)) (pe_op op_mul pe_int (pe_ix ix_list (pv 0) pe_int (fun _ _ => rfl)))) pa_nil)) pe_int) pe_int) (pv 3)))
      (pss_one (ps_ret (pe_op op_mod (pe_callTy call_int1 (by rfl) B.int (by decide +kernel) (pa_cons (pe_op op_fdiv (pv 4) pe_int) pa_nil)) (pv 1))))))), ?_⟩
    have hn' : (0 : Int) < (n : Int) := by omega
    refine ⟨.ref d, rfl, d, _, 0, .int x, rfl, rfl, .inl (.inl hd), rfl, x, 0, rfl, rfl, _, rfl, ite2 (fun e => ?_) (fun e => ?_)⟩
    · refine ⟨.ref d, rfl, d, _, 0, .int x, rfl, rfl, .inl (.inl hd), rfl, .inl ⟨x, rfl, .int n, rfl, x, n, rfl, rfl, hn', ?_⟩⟩
      refine ⟨.ref d, rfl, d, _, 0, .int x, rfl, rfl, .inl (.inl hd), rfl, .int n, rfl, x, n, rfl, rfl, ⟨hn', by omega⟩, ?_⟩
      refine ⟨.ref d, rfl, d, _, 0, 0, rfl, rfl, hd, rfl, ?_⟩
      have hr' : x % (n : Int) = ((x % (n : Int)).toNat : Int) := (Int.toNat_of_nonneg (Int.emod_nonneg _ (by omega))).symm
      refine ⟨.int (x % n), rfl, ?_⟩
      show Q (V.int (x % (n : Int))) _
      rw [hr']
      refine q _ _ (fun b u hb e => by rw [upd_ne hb]; exact e) (fun b hb e => by rw [upd_ne hb]; exact e) ⟨_, _, _, upd_same⟩ ?_
      have := Int.emod_lt_of_pos x hn'
      have h0 := Int.emod_nonneg x (show (n : Int) ≠ 0 by omega)
      omega
    · refine ⟨.ref d, rfl, d, _, 2, .int z, rfl, rfl, .inl (.inl hd), rfl, z, 1, rfl, rfl, ?_⟩
      refine ⟨.ref d, rfl, d, _, 2, 2, rfl, rfl, hd, rfl, ?_⟩
      have h2 : upd H d (.lst [.int x, .int y, .int (z + 1)]) d = some (.lst [.int x, .int y, .int (z + 1)]) := upd_same
      refine ⟨.ref d, rfl, d, _, 1, .int y, rfl, rfl, .inl (.inl h2), rfl, .ref d, rfl, d, _, 2, .int (z + 1), rfl, rfl, .inl (.inl h2), rfl, 32452843, z + 1, rfl, rfl, .inl ⟨by decide, by decide⟩, ?_⟩
      refine ⟨_, _, rfl, rfl, .inl ⟨_, rfl, _, 2305843009213693951, rfl, rfl, by show (0 : Int) < 2305843009213693951; decide, ?_⟩⟩
      have b1 := Int.emod_nonneg (y + 32452843 * (z + 1)) (show (2305843009213693951 : Int) ≠ 0 by decide)
      have b2 := Int.emod_lt_of_pos (y + 32452843 * (z + 1)) (show (0 : Int) < 2305843009213693951 by decide)
      have c1 : CMul ((y + 32452843 * (z + 1)) % 2305843009213693951) ((y + 32452843 * (z + 1)) % 2305843009213693951) := .inl ⟨by omega, by omega⟩
      refine ⟨.int ((y + 32452843 * (z + 1)) % 2305843009213693951), rfl, .int ((y + 32452843 * (z + 1)) % 2305843009213693951), rfl, _, _, rfl, rfl, c1, ?_⟩
      refine ⟨.ref d, rfl, d, _, 2, .int (z + 1), rfl, rfl, .inl (.inl h2), rfl, 97, z + 1, rfl, rfl, .inl ⟨by decide, by decide⟩, ?_⟩
      refine ⟨_, _, rfl, rfl, .inl ⟨_, rfl, _, 2305843009213693921, rfl, rfl, by show (0 : Int) < 2305843009213693921; decide, ?_⟩⟩
      refine ⟨_, 7368787, rfl, rfl, .inr ⟨by decide, by decide⟩, ?_⟩
      refine ⟨.int ((y + 32452843 * (z + 1)) % 2305843009213693951), rfl, _, _, rfl, rfl, ?_⟩
      refine ⟨_, rfl, _, 65536, rfl, rfl, ⟨by decide, by decide⟩, .inl ⟨_, rfl, .int n, rfl, _, n, rfl, rfl, hn', ?_⟩⟩
      have fin : ∀ t : Int, Q (V.int (t % (n : Int))) (upd H d (.lst [.int x, .int y, .int (z + 1)])) := fun t => by
        have hr' : t % (n : Int) = ((t % (n : Int)).toNat : Int) := (Int.toNat_of_nonneg (Int.emod_nonneg _ (by omega))).symm
        rw [hr']
        refine q _ _ (fun b u hb e => by rw [upd_ne hb]; exact e) (fun b hb e => by rw [upd_ne hb]; exact e) ⟨_, _, _, upd_same⟩ ?_
        have := Int.emod_lt_of_pos t hn'
        have h0 := Int.emod_nonneg t (show (n : Int) ≠ 0 by omega)
        omega
      exact fin _
end
end Pd
end

section
set_option linter.all false
set_option maxRecDepth 100000
set_option maxHeartbeats 1000000
/-! _law_pick. -/
namespace Pd
open PySem PySem.Spec PyProof.Rows L2
section
variable {P : Program} {w : World} {K : PySem.W.Frag} {mg : Str → Option Value} {base : Heap}
abbrev sLP : Stmt := topS 43
theorem scLP : FnScope ["_law_dice_here", "_law_items"] ["_law_dice_here", "_law_items"] (defScope sLP) := ⟨rfl, rfl, rfl, by decide +kernel, rfl, by decide +kernel, by decide +kernel⟩
def spLP : Sp := fun vs H Q _ => ∃ (d l : Addr) (xs : List V), vs = [.ref d, .ref l] ∧ IsDice H d ∧ H l = some (.lst xs) ∧ l ≠ d ∧ 0 < xs.length ∧ xs.length < 1000 ∧
  ∀ (H' : Hp) (i : Nat) (x : V), SameB d H H' → (∀ b, b ≠ d → H b = none → H' b = none) → IsDice H' d → xs[i]? = some x → Q x H'
theorem ok_law_pick (B : TB mg) (hLR : Cal P w K mg base 1 "_law_roll" ["_law_dice_here", "_law_total"] spLR) (D : Dfn K mg "_law_pick" sLP ["_law_dice_here", "_law_items"]) : Cal P w K mg base 2 "_law_pick" ["_law_dice_here", "_law_items"] spLP := by
  refine D.cal scLP (fun vs H Q E h => ?_) (fun f cdv A outer s H vs Q E hr h => ?_)
  · obtain ⟨a, n, xs, rfl, _⟩ := h; rfl
  · obtain ⟨d, l, xs, rfl, hd, hl, hne, h0, h1, q⟩ := h
    refine ⟨_, pss_one (ps_ret (pe_ix ix_list (pv 1) (pe_cal hLR hr (by decide) (by rfl) (pa_cons (pv 0) (pa_cons (pe_callB call_len_seq (by rfl) B.len PySem.boot_len (pa_cons (pv 1) pa_nil)) pa_nil))) (fun _ _ => rfl))), ?_⟩
    refine ⟨.ref l, rfl, .ref d, rfl, .ref l, rfl, l, xs, rfl, .inl (.inl (.inl hl)), d, xs.length, rfl, hd, h0, h1, fun H' r sm fr hd' hr' => ?_⟩
    exact ⟨l, xs, r, xs[r], rfl, rfl, .inl (.inl (sm l _ hne hl)), atI_nat (List.getElem?_eq_getElem hr'), q H' r _ sm fr hd' (List.getElem?_eq_getElem hr')⟩
end
end Pd
end

section
set_option linter.all false
set_option maxRecDepth 100000
set_option maxHeartbeats 1000000
/-! _law_mixed. -/
namespace Pd
open PySem PySem.Spec PyProof.Rows L2
theorem map_erase : ∀ (ls : List Int) (r : Nat), (ls.map V.int).eraseIdx r = (ls.eraseIdx r).map V.int
  | [], _ => rfl
  | _ :: _, 0 => rfl
  | x :: t, r + 1 => by
    show V.int x :: (t.map V.int).eraseIdx r = V.int x :: (t.eraseIdx r).map V.int
    rw [map_erase t r]
theorem erase_perm : ∀ (ls : List Int) (r : Nat) (h : r < ls.length), (ls[r] :: ls.eraseIdx r).Perm ls
  | x :: t, 0, _ => List.Perm.refl _
  | x :: t, r + 1, h => (List.Perm.swap x _ _).trans ((erase_perm t r (Nat.lt_of_succ_lt_succ h)).cons x)
section
variable {P : Program} {w : World} {K : PySem.W.Frag} {mg : Str → Option Value} {base : Heap}
abbrev sLM : Stmt := topS 44
abbrev NLM : List Str := ["_law_dice_here", "_law_items", "_law_left", "_law_found", "_law_turn"]
theorem scLM : FnScope NLM ["_law_dice_here", "_law_items"] (defScope sLM) := ⟨rfl, rfl, rfl, by decide +kernel, rfl, by decide +kernel, by decide +kernel⟩
def spLM : Sp := fun vs H Q _ => ∃ (d l : Addr) (ns : List Int), vs = [.ref d, .ref l] ∧ IsDice H d ∧ H l = some (.lst (ns.map V.int)) ∧ l ≠ d ∧ ns.length < 1000 ∧
  ∀ (H' : Hp) (p : Addr) (ms : List Int), SameB d H H' → IsDice H' d → H p = none → H' p = some (.lst (ms.map V.int)) → ms.Perm ns → Q (.ref p) H'
theorem ok_law_mixed (B : TB mg) (hLR : Cal P w K mg base 1 "_law_roll" ["_law_dice_here", "_law_total"] spLR) (D : Dfn K mg "_law_mixed" sLM ["_law_dice_here", "_law_items"]) : Cal P w K mg base 2 "_law_mixed" ["_law_dice_here", "_law_items"] spLM := by
  refine D.cal scLM (fun vs H Q E h => ?_) (fun f cdv A outer s H vs Q E hr h => ?_)
  · obtain ⟨a, n, xs, rfl, _⟩ := h; rfl
  · obtain ⟨d, l, ns, rfl, hd, hl, hne, h1, q⟩ := h
    refine ⟨_, pss_cons (ps_par (i := 2) (j := 3) (by rfl) scLM.nd rfl rfl (by decide) rfl rfl (pa_cons (pe_callTy call_list_of (by rfl) B.list (by decide +kernel) (pa_cons (pv 1) pa_nil)) (pa_cons (pe_lst pa_nil) pa_nil)) (by rfl))
      (pss_cons (ps_for PassesOwn.never rfl (pi_range1 (by rfl) B.range (pa_cons (pe_callB call_len_seq (by rfl) B.len PySem.boot_len (pa_cons (pv 1) pa_nil)) pa_nil)) (pg_name (i := 4) scLM.nd rfl (.inl rfl))
        (pss_one (ps_expr (pe_bm PySem.F.plainAttrs_list PySem.F.slot_list_append PySem.F.type_list_append mt_append (pv 3)
          (pa_cons (pe_bm PySem.F.plainAttrs_list PySem.F.slot_list_pop PySem.F.type_list_pop mt_popAt (pv 2) (pa_cons (pe_cal hLR hr (by decide) (by rfl) (pa_cons (pv 0) (pa_cons (pe_callB call_len_seq (by rfl) B.len PySem.boot_len (pa_cons (pv 2) pa_nil)) pa_nil))) pa_nil)) pa_nil)))))
      (pss_one (ps_ret (pv 3)))), ?_⟩
    refine ⟨.ref l, rfl, l, _, rfl, .inl (.inl (.inl hl)), fun a na => ?_⟩
    refine ⟨Nat.zero_le _, fun b nb => ⟨_, _, rfl, ?_⟩⟩
    have hda : d ≠ a := fun z => by obtain ⟨_, _, _, e⟩ := hd; rw [z, na] at e; cases e
    have hdb : d ≠ b := fun z => by
      obtain ⟨_, _, _, e⟩ := hd
      have e2 := Pf.same_upd (o := .lst (ns.map V.int)) na _ _ e
      rw [z, nb] at e2; cases e2
    have hab : a ≠ b := fun z => by
      have e2 : upd H a (.lst (ns.map V.int)) a = _ := upd_same
      rw [z] at e2
      rw [z] at nb
      rw [nb] at e2; cases e2
    have hHb : H b = none := by rw [upd_ne (Ne.symm hab)] at nb; exact nb
    have s0 := (Pf.same_upd (o := .lst (ns.map V.int)) na).trans (Pf.same_upd (o := .lst []) nb)
    refine ⟨.ref l, rfl, l, _, rfl, .inl (.inl (.inl (s0 _ _ hl))), ?_⟩
    refine ⟨_, rfl, by rw [List.length_map]; omega, by rw [List.length_map]; omega, ?_⟩
    refine for_inv (n := ns.length) (fun i σ H' => ∃ (ls fs : List Int) (y4 : Option V), σ = [some (.ref d), some (.ref l), some (.ref a), some (.ref b), y4] ∧ SameB d H H' ∧ IsDice H' d ∧ H' a = some (.lst (ls.map V.int)) ∧ H' b = some (.lst (fs.map V.int)) ∧ (fs ++ ls).Perm ns ∧ fs.length = i)
      ?_ (fun σ H' hv => ?_) (fun i σ H' hi hv => ?_) (fun i σ H' x H'' Nx hi hv hy hN => ?_)
    · exact ⟨ns, [], none, rfl, fun b' u hb' e => s0 _ _ e, (let ⟨x, y, z, e⟩ := hd; ⟨x, y, z, s0 _ _ e⟩), by rw [upd_ne hab, upd_same], upd_same, List.Perm.refl _, rfl⟩
    · obtain ⟨ls, fs, y4, rfl, sm, hd', ha', hb', hp, hf⟩ := hv
      have hl0 : ls = [] := by
        have := hp.length_eq
        rw [List.length_append] at this
        exact List.eq_nil_of_length_eq_zero (by omega)
      refine ⟨by show ((List.map V.int ns).length : Int).toNat ≤ ns.length; rw [List.length_map]; omega, .ref b, rfl, q H' b fs sm hd' hHb hb' ?_⟩
      rw [hl0, List.append_nil] at hp
      exact hp
    · show i < ((List.map V.int ns).length : Int).toNat
      rw [List.length_map]; omega
    · obtain ⟨ls, fs, y4, rfl, sm, hd', ha', hb', hp, hf⟩ := hv
      obtain ⟨rfl, rfl⟩ := hy
      have hll : ls.length = ns.length - i := by
        have := hp.length_eq
        rw [List.length_append] at this
        omega
      refine ⟨.ref b, rfl, .inl ⟨rfl, _, .inl (.inl hb')⟩, .ref a, rfl, .inl ⟨rfl, _, .inl (.inl ha')⟩, .ref d, rfl, .ref a, rfl, a, _, rfl, .inl (.inl (.inl ha')), d, ls.length, by rw [List.length_map]; rfl, hd', by omega, by omega, fun H2 r sm2 fr2 hd2 hr2 => ?_⟩
      have hsx : seqIndex? (r : Int) (ls.map V.int).length = some r := by
        have := PySem.StrLaws.seqIndex_nonneg (i := (r : Int)) (n := (ls.map V.int).length) (by omega) (by rw [List.length_map]; omega)
        rw [Int.toNat_natCast] at this
        exact this
      refine ⟨a, ls.map V.int, r, r, .int ls[r], rfl, rfl, sm2 a _ (Ne.symm hda) ha', by omega, by omega, hsx, by rw [List.getElem?_map, List.getElem?_eq_getElem hr2]; rfl, ?_⟩
      have hb2 : upd H2 a (.lst ((ls.map V.int).eraseIdx r)) b = some (.lst (fs.map V.int)) := by rw [upd_ne (Ne.symm hab)]; exact sm2 b _ (Ne.symm hdb) hb'
      refine ⟨b, fs.map V.int, .int ls[r], rfl, rfl, hb2, Pf.small1000' (by rw [List.length_map]; omega), ?_⟩
      refine hN _ _ ⟨ls.eraseIdx r, fs ++ [ls[r]], _, rfl, fun c u hc e => ?_, ?_, ?_, ?_, ?_, by rw [List.length_append]; show fs.length + 1 = i + 1; omega⟩
      · rw [upd_ne (ne_of_none e hHb), upd_ne (ne_of_none e na)]
        exact sm2 c u hc (sm c u hc e)
      · obtain ⟨x, y, z, e⟩ := hd2
        exact ⟨x, y, z, by rw [upd_ne hdb, upd_ne hda]; exact e⟩
      · rw [upd_ne hab, upd_same, map_erase]
      · rw [upd_same, List.map_append]; rfl
      · rw [List.append_assoc]
        exact (List.Perm.append_left fs (erase_perm ls r hr2)).trans hp
end
end Pd
end

section
set_option linter.all false
set_option maxRecDepth 100000
set_option maxHeartbeats 1000000
/-! _law_dice. -/
namespace Pd
open PySem PySem.Spec PyProof.Rows L2
section
variable {P : Program} {w : World} {K : PySem.W.Frag} {mg : Str → Option Value} {base : Heap}
abbrev sLD : Stmt := topS 41
abbrev NLD : List Str := ["_law_script", "_law_spot", "_law_cell", "_law_left"]
theorem scLD : FnScope NLD ["_law_script", "_law_spot"] (defScope sLD) := ⟨rfl, rfl, rfl, by decide +kernel, rfl, by decide +kernel, by decide +kernel⟩
def spLD (K : PySem.W.Frag) : Sp := fun vs H Q _ => ∃ (a : Addr) (ns : List Int) (i : Nat), vs = [.ref a, .int i] ∧ SqL K H a (ns.map V.int) ∧ ns.length ≤ 1000 ∧ i < 1000 ∧ ∀ (H' : Hp) (d : Addr), Cf.Same H H' → H d = none → IsDice H' d → Q (.ref d) H'
theorem ok_law_dice (B : TB mg) (D : Dfn K mg "_law_dice" sLD ["_law_script", "_law_spot"]) : Cal P w K mg base 1 "_law_dice" ["_law_script", "_law_spot"] (spLD K) := by
  refine D.cal scLD (fun vs H Q E h => ?_) (fun f cdv A outer s H vs Q E hr h => ?_)
  · obtain ⟨a, n, i, rfl, _⟩ := h; rfl
  · obtain ⟨a, ns, i, rfl, ha, hl, hi, q⟩ := h
    refine ⟨_, pss_cons (ps_set (i := 2) scLD.nd rfl (.inl rfl) (pe_ifExp (pt_cmpR op_lt (pv 1) (pe_callB call_len_seq (by rfl) B.len PySem.boot_len (pa_cons (pv 0) pa_nil)) (nomark _))
        (pe_callTy call_int1 (by rfl) B.int (by decide +kernel) (pa_cons (pe_ix ix_list (pv 0) (pv 1) (fun _ _ => rfl)) pa_nil)) (pe_op op_add (pe_op op_mul pe_int (pv 1)) pe_int)))
      (pss_cons (ps_set (i := 3) scLD.nd rfl (.inl rfl) (pe_op op_mod (pe_callB (call_max2 rfl) (by rfl) B.max (by decide +kernel) (pa_cons pe_int (pa_cons (pe_op op_sub (pe_callB call_abs (by rfl) B.abs (by decide +kernel) (pa_cons (pv 2) pa_nil)) (pe_op op_pow pe_int pe_int)) pa_nil)))
        (pe_op op_mulW (pe_op op_pow pe_int pe_int) (pe_op op_pow pe_int pe_int))))
      (pss_one (ps_ret (pe_lst (pa_cons (pv 3) (pa_cons (pe_op op_add (pe_op op_add (pe_op op_add (pe_op op_mul (pe_op op_mod (pe_callB call_abs (by rfl) B.abs (by decide +kernel) (pa_cons (pv 2) pa_nil)) pe_int) pe_int) (pe_op op_mul pe_int (pv 1)))
        (pe_op op_mul pe_int (pe_callTy call_int1 (by rfl) B.int (by decide +kernel) (pa_cons (pe_cmpR op_lt (pv 2) pe_int (nomark _)) pa_nil)))) pe_int) (pa_cons pe_int pa_nil))))))), ?_⟩
    refine ⟨.int i, rfl, .ref a, rfl, a, _, rfl, .inl ha, i, _, rfl, rfl, _, rfl, ite2 (fun e => ?_) (fun e => ?_)⟩
    · have e' : i < ns.length := by
        have := of_decide_eq_true e
        rw [List.length_map] at this
        omega
      refine ⟨.ref a, rfl, .int i, rfl, a, _, i, .int ns[i], rfl, rfl, ha, atI_nat (by rw [List.getElem?_map, List.getElem?_eq_getElem e']; rfl), .inl ⟨_, rfl, ?_⟩⟩
      refine ⟨.int ns[i], rfl, ns[i], rfl, 10, 16, rfl, rfl, ⟨by decide, by decide, by decide⟩, ?_⟩
      refine ⟨_, _, rfl, rfl, 0, _, rfl, 10, 60, rfl, rfl, ⟨by decide, by decide, by decide⟩, 10, 60, rfl, rfl, ⟨by decide, by decide, by decide⟩, _, _, rfl, rfl, wide_mul (a := 300) (b := 300) (by decide +kernel) (by decide +kernel) (by decide) (by decide) (by decide), _, _, rfl, rfl, by show (0 : Int) < 10 ^ 60 * 10 ^ 60; decide +kernel, ?_⟩
      have m1 : ∀ t : Int, CMul (t % 1152921504606846883) 47 := fun t => .inr ⟨by decide, by decide⟩
      refine ⟨_, rfl, .int ns[i], rfl, ns[i], rfl, _, 1152921504606846883, rfl, rfl, by show (0 : Int) < 1152921504606846883; decide, _, 47, rfl, rfl, m1 _, .int i, rfl, 809, i, rfl, rfl, .inl ⟨by decide, by decide⟩, _, _, rfl, rfl, ?_⟩
      refine ⟨.int ns[i], rfl, ns[i], 0, rfl, rfl, .inr ⟨_, rfl, 31, _, rfl, rfl, .inl ⟨by decide, by decide⟩, _, _, rfl, rfl, _, 7, rfl, rfl, by show 3 ≤ sizeLine; decide, fun d nd => q _ d (Pf.same_upd nd) nd ⟨_, _, _, upd_same⟩⟩⟩
    · refine ⟨.int i, rfl, 67, i, rfl, rfl, .inl ⟨by decide, by decide⟩, _, 19, rfl, rfl, ?_⟩
      refine ⟨.int (67 * (i : Int) + 19), rfl, 67 * (i : Int) + 19, rfl, 10, 16, rfl, rfl, ⟨by decide, by decide, by decide⟩, ?_⟩
      refine ⟨_, _, rfl, rfl, 0, _, rfl, 10, 60, rfl, rfl, ⟨by decide, by decide, by decide⟩, 10, 60, rfl, rfl, ⟨by decide, by decide, by decide⟩, _, _, rfl, rfl, wide_mul (a := 300) (b := 300) (by decide +kernel) (by decide +kernel) (by decide) (by decide) (by decide), _, _, rfl, rfl, by show (0 : Int) < 10 ^ 60 * 10 ^ 60; decide +kernel, ?_⟩
      have m1 : ∀ t : Int, CMul (t % 1152921504606846883) 47 := fun t => .inr ⟨by decide, by decide⟩
      refine ⟨_, rfl, .int (67 * (i : Int) + 19), rfl, (67 * (i : Int) + 19), rfl, _, 1152921504606846883, rfl, rfl, by show (0 : Int) < 1152921504606846883; decide, _, 47, rfl, rfl, m1 _, .int i, rfl, 809, i, rfl, rfl, .inl ⟨by decide, by decide⟩, _, _, rfl, rfl, ?_⟩
      refine ⟨.int (67 * (i : Int) + 19), rfl, (67 * (i : Int) + 19), 0, rfl, rfl, .inr ⟨_, rfl, 31, _, rfl, rfl, .inl ⟨by decide, by decide⟩, _, _, rfl, rfl, _, 7, rfl, rfl, by show 3 ≤ sizeLine; decide, fun d nd => q _ d (Pf.same_upd nd) nd ⟨_, _, _, upd_same⟩⟩⟩
end
end Pd
end

section
set_option linter.all false
set_option maxRecDepth 100000
set_option maxHeartbeats 1000000
/-! sorted of tuples. -/
namespace Pe
open PySem PySem.Spec PyProof.Rows L2
/-- all of h stands in h' -/
abbrev Grow (h h' : Heap) : Prop := ∀ b o, h.get? b = some o → h'.get? b = some o
section
variable {prog : Program} {w : World} {A : Around} {E : Value → Shared → Prop} {s : Shared}
/-- sorted(v): what is collected, then list.sort of a new list -/
theorem sorted_run {v : Value} {vs : List Value} {G : Array Value → Prop} {Q : Value → Shared → Prop} (hz : vs.length ≤ sizeLine)
    (hc : ∀ {E' : Value → Shared → Prop} {R : List Value → Shared → Prop}, (∀ h' tk, Grow s.heap h' → R vs { s with heap := h', toks := tk }) → wpAny (model prog w) A.in1 (collect v) R E' s)
    (hs : ∀ (h' : Heap) (tk : Nat) {E' : Value → Shared → Prop} {R : Value → Shared → Prop}, Grow s.heap (h'.push (seqObj "list" vs.toArray 0)) → (h'.push (seqObj "list" vs.toArray 0)).get? h'.objs.size = some (seqObj "list" vs.toArray 0) →
      (∀ out, G out → R .none { s with heap := sortedHeap (h'.push (seqObj "list" vs.toArray 0)) h'.objs.size vs out, toks := tk }) →
      wpAny (model prog w) A.in1 (call (.builtin "list.sort") [.ref h'.objs.size]) R E' { s with heap := h'.push (seqObj "list" vs.toArray 0), toks := tk })
    (hQ : ∀ (h' h2 : Heap) (tk c : Nat) (out : Array Value), Grow s.heap h' → Grow h' h2 → h2.get? h'.objs.size = some (seqObj "list" out c) → G out → Q (.ref h'.objs.size) { s with heap := h2, toks := tk }) :
    wpAny (model prog w) A (call (.builtin "sorted") [v]) Q E s := by
  refine Calls.call_function_entry PyProof.Rows.kind_sorted PyProof.Rows.plain_sorted PyProof.Rows.entry_sorted (PyProof.Rows.args_sorted1 _) ?_
  unfold Builtin.«sorted»
  refine wpAny_bind (m := checkCount "sorted" 1 1 _) (wpAny_pure ?_)
  refine wpAny_bind (hc fun h' tk hk => ?_)
  refine wpAny_bind (wpAny_newList ?_ hz)
  have hoL : (h'.push (seqObj "list" vs.toArray 0)).get? h'.objs.size = some (seqObj "list" vs.toArray 0) := Heap.get?_push_size _ rfl
  refine wpAny_bind (wpAny_holding (hs h' tk (fun b o e => Heap.get?_push_of_some _ (hk b o e)) hoL fun out hg => ?_))
  obtain ⟨c, hc'⟩ := sortedHeap_at (vs := vs) (out := out) hoL
  refine wpAny_pure ⟨_, rfl, hQ h' _ tk c out hk (fun b o e => ?_) hc' hg⟩
  have hb : b < h'.objs.size := Heap.lt_size e
  rw [sortedHeap_old (Nat.ne_of_lt hb) (by rw [size_push']; exact Nat.lt_succ_of_lt hb)]
  exact Heap.get?_push_of_some _ e
/-- ints -/
def IntsOut (ns : List Int) (out : Array Value) : Prop := ∃ ns', IntsAre out.toList ns' ∧ ns'.Perm ns ∧ ns'.Pairwise (· ≤ ·)
theorem sort_ints_run {h' : Heap} {p : Addr} {tk : Nat} {vs : List Value} {ns : List Int} {R : Value → Shared → Prop} (ho : h'.get? p = some (seqObj "list" vs.toArray 0)) (hI : IntsAre vs ns) (h64 : vs.length < 64)
    (h : ∀ out, IntsOut ns out → R .none { s with heap := sortedHeap h' p vs out, toks := tk }) : wpAny (model prog w) A (call (.builtin "list.sort") [.ref p]) R E { s with heap := h', toks := tk } :=
  wpAny_call_entry PyProof.Rows.slot_list_sort ⟨_, ho, rfl⟩ PyProof.Rows.entry_list_sort (list_sort_tree (s := { s with heap := h', toks := tk }) ho hI h64 fun out ns' a1 a2 a3 => ⟨_, rfl, h out ⟨ns', a1, a2, a3⟩⟩) (PyProof.Rows.args_list_sort _)
end
section
variable {X : Cx}
/-- a tuple, collected -/
theorem collect_tup {prog : Program} {w : World} {A : Around} {E : Value → Shared → Prop} {s : Shared} {a : Addr} {items : Array Value} (ht : IsTup s.heap a items) (hz : items.size ≤ sizeLine) {R : List Value → Shared → Prop}
    (h : ∀ h' tk, Grow s.heap h' → R items.toList { s with heap := h', toks := tk }) : wpAny (model prog w) A (collect (.ref a)) R E s := by
  obtain ⟨o, ho, hc, n, hd⟩ := ht
  exact wpAny_collect_seq a (.inr rfl) ho hc hd (fun h' k => h h' s.toks k) hz
def rSortTI (K : PySem.W.Frag) : List V → Hp → VK → Prop := fun vs H Q => ∃ (a : Addr) (ns : List Int), vs = [V.ref a] ∧ SqT K H a (ns.map V.int) ∧ ns.length < 64 ∧
  ∀ (ns' : List Int) (p : Addr), ns'.Perm ns → ns'.Pairwise (· ≤ ·) → H p = none → Q (.ref p) (upd H p (.lst (ns'.map V.int)))
/-- sorted(t), t a tuple of ints -/
theorem cr_sortTI : CallR X (.builtin "sorted") (rSortTI X.K) := by
  intro pins s σ H vs us Q I r h
  obtain ⟨a, ns, rfl, hs, h64, q⟩ := h
  obtain ⟨its, rv, ht, hz⟩ := I.tuple hs
  rw [Vals.ref1 r]
  have hi := rv.ints
  have hl : its.length = ns.length := hi.length
  have h64' : its.length < 64 := by omega
  refine sorted_run (vs := its) (G := IntsOut ns) (by rw [sizeLine_eq]; omega) (fun hr => ?_) (fun h' tk _ _ k ho hr => sort_ints_run ho hi h64' hr) (fun h' h2 tk c out k k2 ho ⟨ns', a1, a2, a3⟩ => ?_)
  · refine collect_tup ht (by rw [List.size_toArray, sizeLine_eq]; omega) fun h' tk k => ?_
    rw [List.toList_toArray]
    exact hr h' tk k
  · have I1 : Inv X pins σ H { s with heap := h', toks := tk } := I.kept k
    have hlen : (ns'.map V.int).length ≤ sizeLine := by rw [List.length_map, a2.length_eq, sizeLine_eq]; omega
    exact ⟨.ref h'.objs.size, upd H h'.objs.size (.lst (ns'.map V.int)), I1.laid (t' := tk) k2 (Nat.le_refl _) (show ObjOk X.prog X.w _ _ _ (.lst (ns'.map V.int)) from ⟨hlen, out.toList, c, vals_of_ints a1, by rw [Array.toArray_toList]; exact ho⟩), rfl, q ns' _ a2 a3 (I1.hok.fresh (Nat.le_refl _))⟩
theorem perm_lift {α β : Type} (f : α → β) : ∀ {l m : List β}, l.Perm m → ∀ ks : List α, m = ks.map f → ∃ ks' : List α, l = ks'.map f ∧ ks'.Perm ks := by
  intro l m h
  induction h with
  | nil => exact fun ks e => ⟨ks, e, List.Perm.refl _⟩
  | @cons x l1 l2 h ih =>
    intro ks e
    cases ks with
    | nil => cases e
    | cons k ks =>
      rw [List.map_cons] at e
      injection e with e1 e2
      obtain ⟨ks', a, b⟩ := ih ks e2
      exact ⟨k :: ks', by rw [List.map_cons, a, e1], b.cons k⟩
  | swap x y l =>
    intro ks e
    match ks, e with
    | k1 :: k2 :: r, e =>
      rw [List.map_cons, List.map_cons] at e
      injection e with e1 e2
      injection e2 with e2 e3
      exact ⟨k2 :: k1 :: r, by rw [List.map_cons, List.map_cons, e1, e2, e3], List.Perm.swap k1 k2 r⟩
  | trans h1 h2 ih1 ih2 =>
    intro ks e
    obtain ⟨k1, a, b⟩ := ih2 ks e
    obtain ⟨k2, a2, b2⟩ := ih1 k1 a
    exact ⟨k2, a2, b2.trans b⟩
abbrev vRef (p : Addr × List Int) : Value := .ref p.1
abbrev xRef (p : Addr × List Int) : V := .ref p.1
/-- what a sort of tuples leaves -/
def TupsOut (B : Int) (ks : List (Addr × List Int)) (out : Array Value) : Prop := ∃ ks' : List (Addr × List Int), out.toList = ks'.map vRef ∧ ks'.Perm ks ∧ ks'.Pairwise fun p q => TS.code B p.2 ≤ TS.code B q.2
theorem sort_tups_run {prog : Program} {w : World} {A : Around} {E : Value → Shared → Prop} {s : Shared} {h' : Heap} {p : Addr} {tk d : Nat} {B : Int} {ks : List (Addr × List Int)} {R : Value → Shared → Prop} (ho : h'.get? p = some (seqObj "list" (ks.map vRef).toArray 0)) (h64 : ks.length < 64)
    (hd : 1 ≤ d) (ht : ∀ q ∈ ks, TS.TupInts h' (.ref q.1) q.2) (hB : ∀ q ∈ ks, q.2.length = d ∧ TS.Bd B q.2)
    (h : ∀ out, TupsOut B ks out → R .none { s with heap := sortedHeap h' p (ks.map vRef) out, toks := tk }) : wpAny (model prog w) A (call (.builtin "list.sort") [.ref p]) R E { s with heap := h', toks := tk } := by
  refine TS.call_sort_tups (s := { s with heap := h', toks := tk }) (d := d) (B := B) ho (by rw [List.length_map]; exact h64) hd (fun v hv => ?_) fun out h1 h2 => ?_
  · obtain ⟨q, hq, rfl⟩ := List.mem_map.mp hv
    exact ⟨q.2, ht q hq, hB q hq⟩
  · obtain ⟨ks', a, b⟩ := perm_lift vRef h1 ks rfl
    refine h out ⟨ks', a, b, ?_⟩
    rw [a, List.pairwise_map] at h2
    refine List.Pairwise.imp_of_mem (fun {q r} hq hr hle => ?_) h2
    have e1 : TS.intsOf h' (vRef q) = q.2 := (ht q (b.mem_iff.mp hq)).ints
    have e2 : TS.intsOf h' (vRef r) = r.2 := (ht r (b.mem_iff.mp hr)).ints
    rw [← e1, ← e2]
    exact hle
theorem vals_xRef : ∀ {ks : List (Addr × List Int)} {us : List Value}, Vals (ks.map xRef) us → us = ks.map vRef
  | [], _, .nil => rfl
  | p :: ks, _, .cons r t => by
    cases r
    rw [vals_xRef t]; rfl
theorem vals_of_xRef : ∀ (ks : List (Addr × List Int)), Vals (ks.map xRef) (ks.map vRef)
  | [] => .nil
  | p :: ks => .cons rfl (vals_of_xRef ks)
def rSortTT (K : PySem.W.Frag) : List V → Hp → VK → Prop := fun vs H Q => ∃ (a : Addr) (ks : List (Addr × List Int)) (d : Nat) (B : Int), vs = [V.ref a] ∧ SqT K H a (ks.map xRef) ∧ ks.length < 64 ∧ 1 ≤ d ∧ (∀ q ∈ ks, SqT K H q.1 (q.2.map V.int) ∧ q.2.length = d ∧ TS.Bd B q.2) ∧
  ∀ (ks' : List (Addr × List Int)) (p : Addr), ks'.Perm ks → (ks'.Pairwise fun p q => TS.code B p.2 ≤ TS.code B q.2) → H p = none → Q (.ref p) (upd H p (.lst (ks'.map xRef)))
theorem sort_end {pins : List (Addr × Obj)} {σ : L2.St} {H : Hp} {s : Shared} {Q : VK} {ks : List (Addr × List Int)} {B : Int} (I : Inv X pins σ H s) (h64 : ks.length < 64)
    (q : ∀ (ks' : List (Addr × List Int)) (p : Addr), ks'.Perm ks → (ks'.Pairwise fun p q => TS.code B p.2 ≤ TS.code B q.2) → H p = none → Q (.ref p) (upd H p (.lst (ks'.map xRef))))
    (h' h2 : Heap) (tk c : Nat) (out : Array Value) (k : Grow s.heap h') (k2 : Grow h' h2) (ho : h2.get? h'.objs.size = some (seqObj "list" out c)) (g : TupsOut B ks out) : ∃ x H1, Inv X pins σ H1 { s with heap := h2, toks := tk } ∧ RelV x (.ref h'.objs.size) ∧ Q x H1 := by
  obtain ⟨ks', a1, a2, a3⟩ := g
  have I1 : Inv X pins σ H { s with heap := h', toks := tk } := I.kept k
  have hlen : (ks'.map xRef).length ≤ sizeLine := by rw [List.length_map, a2.length_eq, sizeLine_eq]; omega
  exact ⟨.ref h'.objs.size, upd H h'.objs.size (.lst (ks'.map xRef)), I1.laid (t' := tk) k2 (Nat.le_refl _) (show ObjOk X.prog X.w _ _ _ (.lst (ks'.map xRef)) from ⟨hlen, out.toList, c, by rw [a1]; exact vals_of_xRef ks', by rw [Array.toArray_toList]; exact ho⟩), rfl, q ks' _ a2 a3 (I1.hok.fresh (Nat.le_refl _))⟩
/-- sorted(t), t a tuple of tuples of ints -/
theorem cr_sortTT : CallR X (.builtin "sorted") (rSortTT X.K) := by
  intro pins s σ H vs us Q I r h
  obtain ⟨a, ks, d, B, rfl, hs, h64, hd, hk, q⟩ := h
  obtain ⟨its, rv, ht, hz⟩ := I.tuple hs
  have ei := vals_xRef rv
  subst ei
  rw [Vals.ref1 r]
  refine sorted_run (vs := ks.map vRef) (G := TupsOut B ks) (by rw [List.length_map, sizeLine_eq]; omega) (fun hr => ?_) (fun h' tk _ _ k ho hr => sort_tups_run (d := d) ho h64 hd (fun p hp => (tupI_raw I (hk p hp).1).keeps fun b o e _ => k b o e) (fun p hp => (hk p hp).2) hr)
    (fun h' h2 tk c out k k2 ho g => sort_end I h64 q h' h2 tk c out k k2 ho g)
  refine collect_tup ht (by rw [List.size_toArray, List.length_map, sizeLine_eq]; omega) fun h' tk k => ?_
  rw [List.toList_toArray]
  exact hr h' tk k
end
end Pe
end

section
set_option linter.all false
set_option maxRecDepth 100000
set_option maxHeartbeats 1000000
/-! max of a tuple; sets of ints: set(xs), ==. -/
namespace Pe
open PySem PySem.Spec PyProof.Rows L2
def rMaxTI (K : PySem.W.Frag) : List V → Hp → VK → Prop := fun vs H Q => ∃ (a : Addr) (ns : List Int), vs = [V.ref a] ∧ SqT K H a (ns.map V.int) ∧ 0 < ns.length ∧ ∀ m : Int, m ∈ ns → (∀ j ∈ ns, j ≤ m) → Q (.int m) H
def rSetLI (K : PySem.W.Frag) : List V → Hp → VK → Prop := fun vs H Q => ∃ (a : Addr) (ns : List Int), vs = [V.ref a] ∧ SqL K H a (ns.map V.int) ∧ ns.length < 1000 ∧
  ∀ p (S : Int → Bool) (m : Nat) (us : List Int), H p = none → us.Nodup → us.length = m → (∀ k, k ∈ us ↔ k ∈ ns) → (∀ k, S k = true ↔ k ∈ ns) → Q (.ref p) (upd H p (.set S m))
section
variable {X : Cx}
theorem cr_maxTI (hc : X.calm = true) : CallR X (.builtin "max") (rMaxTI X.K) := by
  intro pins s σ H vs us Q I r h
  obtain ⟨a, ns, rfl, hs, h0, q⟩ := h
  obtain ⟨its, rv, ht, hz⟩ := I.tuple hs
  rw [Vals.ref1 r]
  have hi := rv.ints
  have hl : its.toArray.size = ns.length := by rw [List.size_toArray]; exact hi.length
  have hat : s.heap.IsTuple a its.toArray := ht
  have hlt : a < s.heap.objs.size := ht.lt
  refine call_max_walk (wpAny_pyIter_tuple hat ?_)
  refine ⟨_, _, _, _, _, _, _, rfl, Walks.tuple (A := X.A.in1) (I.ok.hd hc) s.heap.objs.size a (Nat.ne_of_lt hlt) its.toArray, ⟨⟨_, Heap.get?_push_size _ rfl, rfl, rfl⟩, ?_⟩, fun b hb => ?_, by rw [hl]; exact h0,
    CmpOf.ints_gt (fun i => ns.getD i 0) (fun i v hv => hi.int_at i v (by simpa using hv)), fun v h' tk hP hk => ?_⟩
  · obtain ⟨o, ho, r⟩ := hat
    exact ⟨o, Heap.get?_push_of_some _ ho, r⟩
  · show b < (s.heap.push _).objs.size
    rw [Heap.size_push]
    rcases List.mem_cons.mp hb with e | hb
    · rw [e]; exact Nat.lt_succ_self _
    · rw [List.mem_singleton.mp hb]; exact Nat.lt_succ_of_lt hlt
  · rw [List.getElem?_toArray] at hP
    obtain ⟨t, rfl⟩ := hi.int_at _ v hP
    obtain ⟨b1, b2⟩ := argBest_gt (fun i => ns.getD i 0) (its.toArray.size - 1)
    refine ⟨.int _, H, I.kept (t' := tk) fun b u e => hk b u (fun hmem => ?_) (Heap.get?_push_of_some _ e), ⟨t, rfl⟩, q _ ?_ fun j hj => ?_⟩
    · have e1 : b = s.heap.objs.size := List.mem_singleton.mp hmem
      have e2 := Heap.lt_size e
      rw [e1] at e2
      exact absurd e2 (Nat.lt_irrefl _)
    · have hb : argBest (fun i j => decide (ns.getD i 0 > ns.getD j 0)) (its.toArray.size - 1) < ns.length := by omega
      rw [List.getD_eq_getElem?_getD, List.getElem?_eq_getElem hb]
      exact List.getElem_mem hb
    · obtain ⟨i, hi', e⟩ := List.mem_iff_getElem.mp hj
      have e2 : ns.getD i 0 = j := by rw [List.getD_eq_getElem?_getD, List.getElem?_eq_getElem hi', ← e]; rfl
      rw [← e2]
      exact b2 i (by omega)
theorem first_nodup (val : Nat → Int) : ∀ i, (firstMet val i).Nodup
  | 0 => List.nodup_nil
  | i + 1 => by
    rw [firstMet_succ]
    have ih := first_nodup val i
    unfold step_dedup
    split
    · exact ih
    · rename_i hn
      refine List.nodup_append.mpr ⟨ih, List.pairwise_singleton _ _, fun x hx y hy z => hn ?_⟩
      rw [List.mem_singleton.mp hy] at z
      exact List.any_eq_true.mpr ⟨x, hx, beq_iff_eq.mpr z⟩
theorem any_iff (us : List Int) (k : Int) : us.any (· == k) = true ↔ k ∈ us := by
  rw [List.any_eq_true]
  exact ⟨fun ⟨x, hx, e⟩ => by rw [← beq_iff_eq.mp e]; exact hx, fun h => ⟨k, h, beq_self_eq_true k⟩⟩
/-- set(xs) -/
theorem cr_setLI (hc : X.calm = true) : CallR X (.type "set") (rSetLI X.K) := by
  intro pins s σ H vs us Q I r h
  obtain ⟨a, ns, rfl, hs, hn, q⟩ := h
  obtain ⟨its, rv, hl, hz⟩ := I.list hs
  rw [Vals.ref1 r]
  have hi := rv.ints
  have hsz : its.toArray.size = ns.length := by rw [List.size_toArray]; exact hi.length
  have hm : ∀ k, k ∈ firstMet (fun i => ns.getD i 0) its.toArray.size ↔ k ∈ ns := fun k => by
    rw [← any_iff, firstMet_any, hsz]
    have e : (List.range ns.length).map (fun i => ns.getD i 0) = ns := by
      refine List.ext_getElem (by simp) fun i h1 h2 => ?_
      rw [List.getElem_map, List.getElem_range, List.getD_eq_getElem?_getD, List.getElem?_eq_getElem h2]; rfl
    rw [e]
    exact any_iff ns k
  refine call_set_list (I.ok.hd hc) hl.isList (ns := ns) (by simpa using hi) (by unfold scanBound; omega) fun h' tk hS hk => ?_
  have I1 : Inv X pins σ H { s with heap := h', toks := tk } := I.kept fun b o e => hk b o (Heap.lt_size e) e
  refine ⟨.ref s.heap.objs.size, upd H s.heap.objs.size (.set _ _), I.laid (t' := tk) (fun b o e => hk b o (Heap.lt_size e) e) (Nat.le_refl _) hS, rfl, q _ _ _ (firstMet (fun i => ns.getD i 0) its.toArray.size) (I.hok.fresh (Nat.le_refl _)) (first_nodup _ _) rfl hm fun k => (any_iff _ k).trans (hm k)⟩
/-- a == b, two sets of ints -/
theorem entry_set_eq : entryFor table "set.__eq__" = some Builtin.«frozenset.__eq__» :=
  entryFor_alias (id' := "frozenset.__eq__") (by kernel_rfl) rfl (by decide +kernel) (by kernel_rfl)
theorem sub_set_fz : isSubtype (.type "set") (.type "frozenset") = pure false := by rw [isSubtype_type]; kernel_rfl
section
variable {prog : Program} {w : World} {A : Around} {E : Value → Shared → Prop} {s : Shared}
theorem setEntries_ofI {a : Addr} {o : Obj} {es : Array (Int × Value)} {ep : Nat} {t : SetTable} {Q : Array (Int × Value) → Shared → Prop} (ho : s.heap.get? a = some o) (hd : o.data = .set es ep t) (hf : t.fits es.size = true) (h : Q es s) : wpAny (model prog w) A (setEntries a) Q E s := by
  unfold setEntries
  exact wpAny_bind (wpAny_setState_of ho hd hf (wpAny_pure h))
theorem intElem {es : Array (Int × Value)} (h : ElemsOf (intKind prog w) es.toList) {e : Int × Value} (he : e ∈ es.toList) : ∃ k t, e.2 = .int k t ∧ e.1 = (intKind prog w).hash k := by
  obtain ⟨⟨k, hk, hh⟩, _⟩ := h e he
  obtain ⟨t, q⟩ := Value.isInt_shape (k := k) (v := e.2) hk
  exact ⟨k, t, q, hh⟩
theorem unseen_ints {a b : Addr} {oa ob : Obj} {es fs : Array (Int × Value)} {ep ep' : Nat} {t t' : SetTable} {Q : List (Int × Value) → Shared → Prop} (ha : s.heap.get? a = some oa) (hda : oa.data = .set es ep t) (hfa : t.fits es.size = true) (hea : ElemsOf (intKind prog w) es.toList)
    (hb : s.heap.get? b = some ob) (hdb : ob.data = .set fs ep' t') (hfb : t'.fits fs.size = true) (heb : ElemsOf (intKind prog w) fs.toList) (h : Q es.toList s) : wpAny (model prog w) A (Builtin.Frozenset.walkUnseen a b) Q E s := by
  unfold Builtin.Frozenset.walkUnseen
  refine wpAny_bind (setEntries_ofI ha hda hfa ?_)
  refine wpAny_bind (setEntries_ofI hb hdb hfb ?_)
  refine wpAny_bind ?_
  refine wpAny_forIn_list _ (fun rest r s' => r.1 = none ∧ s' = s ∧ ∀ e ∈ rest, ∃ k u, e.2 = Value.int k u) _ ?_ ?_ _ _ ⟨rfl, rfl, fun e he => ?_⟩
  · rintro e rest r s' ⟨hr, rfl, hall⟩
    obtain ⟨k, u, e1⟩ := hall e List.mem_cons_self
    obtain ⟨hh, x⟩ := e
    subst e1
    refine wpAny_bind (m := Builtin.Frozenset.quietEq (.int k u)) (wpAny_pure ?_)
    exact wpAny_pure ⟨rfl, rfl, fun e he => hall e (List.mem_cons_of_mem _ he)⟩
  · rintro ⟨r1, r2⟩ s' ⟨hr, rfl, _⟩
    simp only at hr
    subst hr
    exact wpAny_pure h
  · rcases List.mem_append.mp he with z | z
    · obtain ⟨k, u, q, _⟩ := intElem hea z; exact ⟨k, u, q⟩
    · obtain ⟨k, u, q, _⟩ := intElem heb z; exact ⟨k, u, q⟩
theorem subset_ints {nm : String} {a b : Addr} {S T : Int → Bool} {n m : Nat} {Q : Bool → Shared → Prop} (hS : s.heap.SetOf (intKind prog w) a S n) (hT : s.heap.SetOf (intKind prog w) b T m) (hnm : n = m)
    (h : ∀ r : Bool, (r = true ↔ ∀ k, S k = true → T k = true) → Q r s) : wpAny (model prog w) A (Builtin.Frozenset.subsetOf nm a b) Q E s := by
  obtain ⟨oa, es, ep, t, ha, xa, hda, hea, hma, hba, hfa, hna⟩ := id hS
  obtain ⟨ob, fs, ep', t', hb, xb, hdb, heb, hmb, hbb, hfb, hnb⟩ := id hT
  unfold Builtin.Frozenset.subsetOf Builtin.Frozenset.sizeOf
  refine wpAny_bind (wpAny_bind (setEntries_ofI ha hda hfa (wpAny_pure ?_)))
  refine wpAny_bind (wpAny_bind (setEntries_ofI hb hdb hfb (wpAny_pure ?_)))
  rw [if_neg (by omega)]
  try refine wpAny_bind (wpAny_pure ?_)
  refine wpAny_bind (wpAny_setEpoch_of ha hda hfa ?_)
  refine wpAny_bind (unseen_ints ha hda hfa hea hb hdb hfb heb ?_)
  refine wpAny_bind ?_
  refine wpAny_forIn_list _ (fun rest r s' => r.1 = none ∧ s' = s ∧ ∃ done, es.toList = done ++ rest ∧ ∀ e ∈ done, ∀ k, (intKind prog w).is k e.2 = true → T k = true) _ ?_ ?_ _ _ ⟨rfl, rfl, [], rfl, fun e he => absurd he List.not_mem_nil⟩
  · rintro e rest r s' ⟨hr, rfl, done, hd, hall⟩
    have hm : e ∈ es.toList := by rw [hd]; exact List.mem_append_right _ List.mem_cons_self
    obtain ⟨k, u, e1, e2⟩ := intElem hea hm
    obtain ⟨hh, x⟩ := e
    simp only at e1 e2
    subst e1 e2
    refine wpAny_bind (wpAny_holding (wpAny_setFind_of (knd := intKind prog w) (k := k) (intKind_is _ _ _ _) rfl hT fun r hr => ?_))
    cases hk : T k with
    | false =>
      rw [hk] at hr
      rw [if_pos (by cases r <;> simp_all)]
      refine wpAny_pure (wpAny_pure (h false ⟨fun z => Bool.noConfusion z, fun z => ?_⟩))
      have := z k ((hma k).mpr ⟨_, hm, intKind_is _ _ _ _⟩)
      rw [hk] at this; cases this
    | true =>
      rw [hk] at hr
      rw [if_neg (by cases r <;> simp_all)]
      refine wpAny_bind ?_
      unfold Builtin.Frozenset.unchanged
      refine wpAny_bind (wpAny_setEpoch_of ha hda hfa ?_)
      rw [if_neg (by simp)]
      refine wpAny_pure (wpAny_pure ⟨rfl, rfl, done ++ [((intKind prog w).hash k, .int k u)], by rw [hd, List.append_assoc]; rfl, fun e he k' hk' => ?_⟩)
      rcases List.mem_append.mp he with z | z
      · exact hall e z k' hk'
      · rw [List.mem_singleton.mp z] at hk'
        have ek : k' = k := (intKind prog w).inj _ _ _ hk' (intKind_is _ _ _ _)
        rw [ek]; exact hk
  · rintro ⟨r1, r2⟩ s' ⟨hr, rfl, done, hd, hall⟩
    simp only at hr
    subst hr
    rw [List.append_nil] at hd
    refine wpAny_pure (h true ⟨fun _ k hk => ?_, fun _ => rfl⟩)
    obtain ⟨e, he, hke⟩ := (hma k).mp hk
    rw [hd] at he
    exact hall e he k hke
end
/-- set.__eq__ -/
theorem set_eq_tree {a b : Addr} {S T : Int → Bool} {n m : Nat} {P : PySem.Fin → Shared → Prop} (hS : s.heap.SetOf (intKind prog w) a S n) (hT : s.heap.SetOf (intKind prog w) b T m)
    (h : ∀ r : Bool, (r = true ↔ n = m ∧ ∀ k, S k = true → T k = true) → P (.done (.ret (.bool r))) s) : wpAny (model prog w) A (Builtin.«frozenset.__eq__» ⟨[.ref a, .ref b], []⟩) P E s := by
  obtain ⟨oa, es, ep, t, ha, xa, hda, hea, hma, hba, hfa, hna⟩ := id hS
  obtain ⟨ob, fs, ep', t', hb, xb, hdb, heb, hmb, hbb, hfb, hnb⟩ := id hT
  have Ta : s.TypeIs (.ref a) "set" := ⟨oa, ha, xa.1⟩
  have Tb : s.TypeIs (.ref b) "set" := ⟨ob, hb, xb.1⟩
  show wpAny _ _ (Builtin.Frozenset.slot1 "__eq__" ⟨[.ref a, .ref b], []⟩ >>= _) _ _ s
  refine wpAny_bind (m := Builtin.Frozenset.slot1 "__eq__" ⟨[.ref a, .ref b], []⟩) (wpAny_pure ?_)
  refine wpAny_bind ?_
  unfold Builtin.Frozenset.isAnySet
  refine wpAny_bind (wpAny_isInstance Tb sub_set_self ?_)
  refine wpAny_pure ?_
  rw [if_neg (by simp)]
  try refine wpAny_bind (wpAny_pure ?_)
  dsimp only
  refine wpAny_bind (m := Builtin.Frozenset.addrOf (.ref b)) (wpAny_pure ?_)
  refine wpAny_bind (m := Builtin.Frozenset.sizeOf a) (wpAny_bind (setEntries_ofI ha hda hfa (wpAny_pure ?_)))
  refine wpAny_bind (m := Builtin.Frozenset.sizeOf b) (wpAny_bind (setEntries_ofI hb hdb hfb (wpAny_pure ?_)))
  refine wpAny_bind ?_
  rw [hna, hnb]
  by_cases hnm : n = m
  · rw [if_neg (by simpa using hnm)]
    try refine wpAny_bind (wpAny_pure ?_)
    refine wpAny_bind ?_
    refine wpAny_bind (wpAny_isInstance Ta sub_set_fz ?_)
    refine wpAny_pure ?_
    rw [if_neg (by simp)]
    try refine wpAny_bind (wpAny_pure ?_)
    refine subset_ints hS hT hnm fun r hr => ?_
    exact wpAny_pure (h r (by rw [hr]; exact ⟨fun z => ⟨hnm, z⟩, fun z => z.2⟩))
  · rw [if_pos (by simpa using hnm)]
    refine wpAny_pure (wpAny_pure (h false ⟨fun z => Bool.noConfusion z, fun z => absurd z.1 hnm⟩))
end
def rEqSI : R2 := fun x y H Q => ∃ (a b : Addr) (S T : Int → Bool) (n m : Nat), x = .ref a ∧ y = .ref b ∧ H a = some (.set S n) ∧ H b = some (.set T m) ∧ ∀ r : Bool, (r = true ↔ n = m ∧ ∀ k, S k = true → T k = true) → Q (.bl r) H
theorem op_eqSI {X : Cx} (hu : X.A.units < cLine) : OpR X (compareOp .Eq) rEqSI := by
  intro pins s σ H x y v u Q I rx ry h
  obtain ⟨a, b, S, T, n, m, rfl, rfl, ha, hb, q⟩ := h
  cases rx
  cases ry
  have hS : s.heap.SetOf (intKind X.prog X.w) a S n := I.hok a _ ha
  have hT : s.heap.SetOf (intKind X.prog X.w) b T m := I.hok b _ hb
  obtain ⟨oa, es, ep, t, ha', xa, _⟩ := id hS
  obtain ⟨ob, fs, ep', t', hb', xb, _⟩ := id hT
  have Ta : s.TypeIs (.ref a) "set" := ⟨oa, ha', xa.1⟩
  have Tb : s.TypeIs (.ref b) "set" := ⟨ob, hb', xb.1⟩
  exact wpAny_richCompare_same_room (op := .Eq) Ta Tb PySem.F.slot_set_eq
    (wpAny_call_entry PySem.F.slot_set_eq Ta entry_set_eq (set_eq_tree hS hT fun r hr => ⟨_, rfl, (fun e => nomatch e), .bl r, H, I, rfl, q r hr⟩) (PySem.F.args_set_eq_2 _ _)) hu
end Pe
end

section
set_option linter.all false
set_option maxRecDepth 100000
set_option maxHeartbeats 2000000
/-! sets of tuples of ints, up to what a table of 128 holds. -/
namespace Pe
open PySem PySem.Spec PyProof.Rows L2
abbrev Pairs := List (Addr × List Int)
/-- a set of tuples of ints, with no bound but its table's -/
structure Bag (P : Program) (w : World) (h : Heap) (a : Addr) (L : Pairs) (es : Array (Int × Value)) (ep : Nat) (t : SetTable) : Prop where
  obj : ∃ o, h.get? a = some o ∧ o.ExactSet ∧ o.data = .set es ep t
  row : es.toList = rowsOf P w L
  tb : TabOk t (L.map fun p => thash P w p.2)
  nod : (L.map (·.2)).Nodup
  its : ∀ p ∈ L, IsT P w h p.2 p.1
  pl : t.plain = true
  ld : w.params.followText "set-order" = true ∨ t.led = true
  rm : L.length * 5 < t.mask * 3
section
variable {P : Program} {w : World} {A : Around} {E : Value → Shared → Prop} {s : Shared} {a : Addr} {L : Pairs} {es : Array (Int × Value)} {ep : Nat} {t : SetTable}
theorem Bag.few (B : Bag P w s.heap a L es ep t) : L.length ≤ 76 := by
  have h1 := B.rm
  rcases B.tb.mok with e | e | e <;> rw [e] at h1 <;> omega
theorem Bag.sz (B : Bag P w s.heap a L es ep t) : es.size = L.length := by
  have q : es.toList.length = (rowsOf P w L).length := congrArg List.length B.row
  rw [Array.length_toList] at q
  rw [q]
  exact List.length_map ..
theorem Bag.fit (B : Bag P w s.heap a L es ep t) : t.fits es.size = true := by
  have q1 : t.place.size = (L.map fun p => thash P w p.2).length := B.tb.sz
  rw [List.length_map] at q1
  have q2 := B.sz
  have q3 := B.rm
  show (t.place.size == es.size && decide (t.place.size + t.dummies.size ≤ t.mask)) = true
  rw [B.tb.dm, Bool.and_eq_true]
  exact ⟨beq_iff_eq.mpr (by omega), decide_eq_true (by show t.place.size + 0 ≤ t.mask; omega)⟩
theorem Bag.at_ (B : Bag P w s.heap a L es ep t) {i : Nat} {p : Addr × List Int} (h : L[i]? = some p) : es[i]? = some (thash P w p.2, Value.ref p.1) := by
  have q : es.toList[i]? = (rowsOf P w L)[i]? := by rw [B.row]
  rw [Array.getElem?_toList] at q
  rw [q]
  show (L.map _)[i]? = _
  rw [List.getElem?_map, h]; rfl
theorem probe_plain : ∀ (n : Nat) (m : Nat) (p : SetTable.Probe), p.dummy = none → (nth m p n).dummy = none
  | 0, _, _, h => h
  | n + 1, m, p, h => probe_plain n m (adv m p) (by unfold adv; split <;> exact h)
abbrev pb (t : SetTable) (h : Int) (c : Nat) : SetTable.Probe := nth t.mask (runAt t.mask (SetTable.bits h % (t.mask + 1)) (SetTable.bits h)) c
theorem pb_add (t : SetTable) (h : Int) (c q : Nat) : nth t.mask (pb t h c) q = pb t h (c + q) := (nth_add t.mask c _ q).symm
/-- the search, from the c-th step on -/
theorem bag_from (B : Bag P w s.heap a L es ep t) {x : Addr} {k : List Int} {ad : Bool} (hx : IsT P w s.heap k x) (hu : A.units < cLine) {N : Nat} (hN : N < 10 * SetTable.turns t.mask) (hfree : way t.mask (thash P w k) N ∉ t.place.toList)
    (hocc : ∀ c, c < N → way t.mask (thash P w k) c ∈ t.place.toList) {Q : SetFound → Shared → Prop} (yes : k ∈ L.map (·.2) → ∀ r : Option Nat, (ad = true ∨ r.isSome = true) → Q (.there r) s) (no : k ∉ L.map (·.2) → Q (.free (way t.mask (thash P w k) N) false) s) :
    ∀ (f c : Nat) (st : Option SetTable.Probe), st.getD (t.probeStart (thash P w k)) = pb t (thash P w k) c → c ≤ N → N - c < f →
      (∀ (i : Nat) p, L[i]? = some p → p.2 = k → ∃ d, c ≤ d ∧ d < N ∧ t.place.toList[i]? = some (way t.mask (thash P w k) d)) → wpAny (model P w) A (setSearchFrom a (.ref x) (thash P w k) ad f st) Q E s := by
  intro f
  induction f with
  | zero => exact fun c st _ _ z => absurd z (Nat.not_lt_zero _)
  | succ f ih =>
    intro c st hst hc hf hre
    obtain ⟨o, ho, hex, hd⟩ := B.obj
    have hgw : ¬ t.gaveWay = true := by
      have := mask_odd B.tb.mok
      unfold SetTable.gaveWay
      rw [this]; decide
    have hh : ∀ (i : Nat) p, L[i]? = some p → (es[i]?.map (·.1)).getD 0 = thash P w p.2 := fun i p hp => by rw [B.at_ hp]; rfl
    have wj : ∀ q, (nth t.mask (pb t (thash P w k) c) q).j = way t.mask (thash P w k) (c + q) := fun q => congrArg SetTable.Probe.j (pb_add t (thash P w k) c q)
    have hNc : c + (N - c) = N := by omega
    rw [setSearchFrom_succ]
    refine wpAny_bind (wpAny_setState_of ho hd B.fit ?_)
    dsimp only
    refine wp_if_neg hgw ?_
    try refine wpAny_bind (wpAny_pure ?_)
    rcases go_spec t B.tb.ris B.tb.dm (fun i => (es[i]?.map (·.1)).getD 0) (thash P w k) (10 * SetTable.turns t.mask) (N - c) (pb t (thash P w k) c) (probe_plain c _ _ rfl) (by omega)
      (fun q hq => by rw [wj]; exact hocc (c + q) (by omega)) (by rw [wj, hNc]; exact hfree) with ⟨q, i, hq, hi, hhi, hno, hpr⟩ | ⟨hno, hpr⟩
    · rw [wj] at hi
      have hp0 : t.probe (fun i => (es[i]?.map (·.1)).getD 0) (thash P w k) (st.getD (t.probeStart (thash P w k))) = some (.candidate (way t.mask (thash P w k) (c + q)) i (pb t (thash P w k) (c + (q + 1)))) := by
        rw [hst, ← wj q, ← pb_add]; exact hpr
      rw [hp0]
      dsimp only
      have hil : i < L.length := by
        have z1 := (List.getElem?_eq_some_iff.mp hi).1
        have z2 : t.place.size = _ := B.tb.sz
        rw [List.length_map] at z2
        rw [Array.length_toList] at z1
        omega
      obtain ⟨p, hp⟩ : ∃ p, L[i]? = some p := ⟨_, List.getElem?_eq_getElem hil⟩
      have hpm : p ∈ L := List.mem_of_getElem? hp
      have hlive : t.slot (way t.mask (thash P w k) (c + q)) = .live i := slot_live B.tb.ris hi
      have tail : wpAny (model P w) A (searchRest a (.ref x) (thash P w k) ad f es t (way t.mask (thash P w k) (c + q)) i (pb t (thash P w k) (c + (q + 1)))) Q E s := by
        unfold searchRest
        rw [B.at_ hp]
        dsimp only
        refine wpAny_bind (wpAny_holding (wpAny_eqBool_tuple hu (B.its p hpm) hx ?_))
        refine wpAny_bind (wpAny_setState_of ho hd B.fit ?_)
        dsimp only
        by_cases hk : p.2 = k
        · have hin : k ∈ L.map (·.2) := List.mem_map.mpr ⟨p, hpm, hk⟩
          cases ad with
          | true =>
            refine wp_if_pos (by simp [hk]) ?_
            exact wpAny_pure (yes hin none (.inl rfl))
          | false =>
            refine wp_if_neg (by simp) ?_
            try refine wpAny_bind (wpAny_pure ?_)
            rw [sameMem]
            dsimp only
            simp only [if_true, hlive, B.at_ hp]
            refine wpAny_bind (wpAny_isSame_ref_self (wpAny_bind (wpAny_pure ?_)))
            simp only [if_true]
            refine wp_if_pos (by simp [hk]) ?_
            exact wpAny_pure (yes hin (some i) (.inr rfl))
        · refine wp_if_neg (by simp [hk]) ?_
          try refine wpAny_bind (wpAny_pure ?_)
          rw [sameMem]
          dsimp only
          simp only [if_true, hlive, B.at_ hp]
          refine wpAny_bind (wpAny_isSame_ref_self (wpAny_bind (wpAny_pure ?_)))
          simp only [if_true]
          refine wp_if_neg (by simp [hk]) ?_
          refine ih (c + (q + 1)) _ rfl (by omega) (by omega) fun i0 p0 h0 hk0 => ?_
          obtain ⟨d, d1, d2, d3⟩ := hre i0 p0 h0 hk0
          refine ⟨d, ?_, d2, d3⟩
          have same : (es[i0]?.map (·.1)).getD 0 = thash P w k := (hh i0 p0 h0).trans (congrArg (thash P w) hk0)
          rcases Nat.lt_trichotomy d (c + q) with z | z | z
          · exact absurd same (hno (d - c) i0 (by omega) (by rw [wj, show c + (d - c) = d by omega]; exact d3))
          · rw [z] at d3
            have l2 := slot_live B.tb.ris d3
            rw [hlive] at l2
            injection l2 with l2
            rw [← l2, hp] at h0
            cases h0
            exact absurd hk0 hk
          · omega
      by_cases hl : t.led = true
      · refine wp_if_neg (by simp [hl]) ?_
        try refine wpAny_bind (wpAny_pure ?_)
        exact tail
      · refine wp_if_pos (by simp [hl]) ?_
        refine wpAny_bind (seen_tup hx (fun y hy => ?_) ?_)
        · obtain ⟨e, he, rfl⟩ := List.mem_map.mp hy
          have he2 : e ∈ es.toList := by
            have : e ∈ es ∧ e.1 = thash P w k := by simpa using he
            exact Array.mem_toList_iff.mpr this.1
          rw [B.row] at he2
          obtain ⟨p2, hp2, rfl⟩ := List.mem_map.mp he2
          exact ⟨p2.2, p2.1, rfl, B.its p2 hp2⟩
        · refine wp_if_neg (by decide) ?_
          try refine wpAny_bind (wpAny_pure ?_)
          exact tail
    · have hp0 : t.probe (fun i => (es[i]?.map (·.1)).getD 0) (thash P w k) (st.getD (t.probeStart (thash P w k))) = some (.empty (way t.mask (thash P w k) N) none) := by
        have z : way t.mask (thash P w k) N = (nth t.mask (pb t (thash P w k) c) (N - c)).j := by rw [wj, hNc]
        rw [hst, z]; exact hpr
      rw [hp0]
      dsimp only
      refine wpAny_pure (no fun hm => ?_)
      obtain ⟨p0, hp1, hp2⟩ := List.mem_map.mp hm
      obtain ⟨i0, hi0⟩ := List.mem_iff_getElem?.mp hp1
      obtain ⟨d, d1, d2, d3⟩ := hre i0 p0 hi0 hp2
      exact hno (d - c) i0 (by omega) (by rw [wj, show c + (d - c) = d by omega]; exact d3) ((hh i0 p0 hi0).trans (congrArg (thash P w) hp2))
theorem bag_search (B : Bag P w s.heap a L es ep t) {x : Addr} {k : List Int} (ad : Bool) (hx : IsT P w s.heap k x) (hu : A.units < cLine) {Q : SetFound → Shared → Prop}
    (yes : k ∈ L.map (·.2) → ∀ r : Option Nat, (ad = true ∨ r.isSome = true) → Q (.there r) s)
    (no : ∀ N, k ∉ L.map (·.2) → way t.mask (thash P w k) N ∉ t.place.toList → (∀ c, c < N → way t.mask (thash P w k) c ∈ t.place.toList) → Q (.free (way t.mask (thash P w k) N) false) s) :
    wpAny (model P w) A (setSearch a (.ref x) (thash P w k) ad) Q E s := by
  have hrm := B.rm
  obtain ⟨N, hN, hfree, hocc⟩ := B.tb.first (by rw [List.length_map]; omega) (thash P w k)
  have hN2 : N < 100000 := by
    have z : 10 * SetTable.turns t.mask ≤ 1420 := by
      unfold SetTable.turns
      rcases B.tb.mok with e | e | e <;> omega
    omega
  unfold setSearch
  refine bag_from B hx hu hN hfree hocc yes (fun hn => no N hn hfree hocc) 100000 0 none rfl (Nat.zero_le _) (by omega) fun i p hp hk => ?_
  have h1 : (L.map fun p => thash P w p.2)[i]? = some (thash P w k) := by rw [List.getElem?_map, hp, ← hk]; rfl
  have h2 : i < t.place.toList.length := by
    have z1 := (List.getElem?_eq_some_iff.mp hp).1
    have z2 : t.place.size = _ := B.tb.sz
    rw [List.length_map] at z2
    rw [Array.length_toList]
    omega
  have h3 := List.getElem?_eq_getElem h2
  obtain ⟨c, hc, e⟩ := B.tb.before hfree h1 h3
  exact ⟨c, Nat.zero_le _, hc, by rw [h3, e]⟩
/-- x in the set -/
theorem bag_find (B : Bag P w s.heap a L es ep t) {x : Addr} {k : List Int} (hx : IsT P w s.heap k x) (hu : A.units < cLine) {Q : Option Nat → Shared → Prop} (h : ∀ r : Option Nat, r.isSome = decide (k ∈ L.map (·.2)) → Q r s) :
    wpAny (model P w) A (setFind a (.ref x) (thash P w k)) Q E s := by
  obtain ⟨o, ho, hex, hd⟩ := B.obj
  unfold setFind setFindIn
  refine wpAny_bind (wpAny_setState_of ho hd B.fit ?_)
  dsimp only
  refine wp_if_neg (by simp [byScan, Value.scannable]) ?_
  try refine wpAny_bind (wpAny_pure ?_)
  refine wpAny_bind (bag_search B false hx hu (fun hm r hr => ?_) fun N hm _ _ => ?_)
  · dsimp only
    rcases hr with z | z
    · cases z
    · exact wpAny_pure (h r (by rw [z, decide_eq_true hm]))
  · dsimp only
    exact wpAny_pure (h none (by rw [decide_eq_false hm]; rfl))
theorem bag_in (B : Bag P w s.heap a L es ep t) {x : Addr} {k : List Int} (hx : IsT P w s.heap k x) (hu : A.units + 3 < cLine) {Q : Value → Shared → Prop} (h : ∀ tk, Q (.bool (decide (k ∈ L.map (·.2)))) { s with toks := tk }) :
    wpAny (model P w) A (compareOp .In (.ref x) (.ref a)) Q E s := by
  obtain ⟨o, ho, hex, hd⟩ := id B.obj
  have hT : s.TypeIs (.ref a) "set" := ⟨o, ho, hex.1⟩
  show wpAny _ _ (do return .bool (← contains (.ref a) (.ref x))) Q E s
  refine wpAny_bind ?_
  unfold contains
  try with_reducible refine wpAny_holding ?_
  refine wpAny_bind (wpAny_specialOf hT PySem.F.slot_set_contains.lookup ?_)
  rw [if_neg (by rw [beq_builtin_none]; exact Bool.false_ne_true)]
  refine wpAny_bind (wpAny_callSpecialUnlessNone?_slot (name := Str.ofString "__contains__") hT PySem.F.slot_set_contains (wpAny_call_entry PySem.F.slot_set_contains hT entry_set_contains ?_ (PySem.F.args_set_contains_2 _ _)))
  unfold Builtin.«frozenset.__contains__» Builtin.Frozenset.oneOther
  simp only [List.isEmpty_nil, bind_assoc]
  unfold Builtin.Frozenset.addrOf Builtin.Frozenset.withSetAsKey setContains
  refine wpAny_bind (wpAny_pure ?_)
  try dsimp only
  refine wpAny_bind (wpAny_pure ?_)
  try dsimp only
  refine wpAny_bind (wpAny_tryCatch ?_)
  refine wpAny_holding ?_
  refine wpAny_bind (wpAny_pyHash_tuple (by show A.units + 1 < cLine; omega) hx ?_)
  refine wpAny_bind (bag_find (A := A.in1) (s := { s with toks := s.toks + (k.length + 1) }) (B := B) hx (by show A.units + 1 < cLine; omega) fun r hr => ?_)
  refine wpAny_pure ?_
  show wpAny _ _ (ret (Value.bool r.isSome)) _ _ _
  rw [hr]
  exact wpAny_pure ⟨_, rfl, wpAny_truthy_bool (wpAny_pure (h _))⟩
theorem bag_of (R : SetTR P w s.heap a L es ep t) : Bag P w s.heap a L es ep t := ⟨R.ob, R.rows, R.tab, R.nd, R.tup, R.plain, R.led, R.room⟩
/-- one put in -/
theorem bag_add (B : Bag P w s.heap a L es ep t) {x : Addr} {k : List Int} (hx : IsT P w s.heap k x) (hu : A.units < cLine) (hfew : L.length + 1 ≤ 76 ∨ k ∈ L.map (·.2)) {Q : Bool → Shared → Prop}
    (hQ : ∀ b h' L' es' ep' t', Heap.SameBut a s.heap h' → Bag P w h' a L' es' ep' t' → (k ∈ L.map (·.2) → L' = L) → (k ∉ L.map (·.2) → L'.Perm ((x, k) :: L)) → Q b { s with heap := h' }) :
    wpAny (model P w) A (setAddHashed a (.ref x) (thash P w k)) Q E s := by
  obtain ⟨o, ho, hex, hd⟩ := B.obj
  have hsz := B.sz
  have hrm := B.rm
  unfold setAddHashed
  refine wpAny_holding ?_
  rw [show (100000 : Nat) = 99999 + 1 from rfl, setAddHashedIn_succ]
  refine wpAny_bind (wpAny_setState_of ho hd B.fit ?_)
  dsimp only
  refine wp_if_neg (by simp [byScan, Value.scannable]) ?_
  try refine wpAny_bind (wpAny_pure ?_)
  refine wpAny_bind (bag_search B true hx hu (fun hm r _ => ?_) fun N hm hfree hocc => ?_)
  · dsimp only
    exact wpAny_pure (hQ false s.heap L es ep t (Heap.SameBut.refl a s.heap) B (fun _ => rfl) fun z => absurd hm z)
  dsimp only
  refine wpAny_bind (wpAny_setState_of ho hd B.fit ?_)
  dsimp only
  obtain ⟨q1, q2, q3, q4, q5, q6, q7, q8, q9⟩ := B.tb.put hfree hocc
  have hp1 : (t.put (way t.mask (thash P w k) N)).1.plain = true := q6.trans B.pl
  generalize t.put (way t.mask (thash P w k) N) = pt at q1 q3 q4 q5 q6 q7 q8 q9 hp1 ⊢
  obtain ⟨t1, j⟩ := pt
  dsimp only at q1 q3 q4 q5 q6 q7 q8 q9 hp1 ⊢
  subst q1
  first
    | (refine wpAny_bind ?_; refine wp_if_pos hp1 ?_; refine hashBy_tup hx ?_)
    | refine wp_if_pos hp1 (wpAny_bind (hashBy_tup hx ?_))
  simp only [if_true]
  generalize SetTable.below t.place (way t.mask (thash P w k) N) = j at q2 q3 ⊢
  have hrow : (SetTable.insertAt es j (thash P w k, Value.ref x)).toList = rowsOf P w (L.take j ++ (x, k) :: L.drop j) := by
    rw [SetTable.toList_insertAt, rows_put, B.row]
  have pm := put_perm L j (x, k)
  have hhs : (L.take j ++ (x, k) :: L.drop j).map (fun p => thash P w p.2) = (L.map fun p => thash P w p.2).take j ++ thash P w k :: (L.map fun p => thash P w p.2).drop j := by
    rw [List.map_append, List.map_cons, List.map_take, List.map_drop]
  rw [← hhs] at q3
  generalize L.take j ++ (x, k) :: L.drop j = L1 at pm q3 hrow
  have hlen : L1.length = L.length + 1 := pm.length_eq
  have nd1 : (L1.map (·.2)).Nodup := (pm.map (·.2)).nodup_iff.mpr (List.nodup_cons.mpr ⟨hm, B.nod⟩)
  generalize SetTable.insertAt es j (thash P w k, Value.ref x) = es1 at hrow ⊢
  have hes : es1.size = L.length + 1 := by
    have z : es1.toList.length = (rowsOf P w L1).length := congrArg List.length hrow
    rw [Array.length_toList] at z
    rw [z, ← hlen]
    exact List.length_map ..
  have hf76 : L.length + 1 ≤ 76 := hfew.resolve_right hm
  refine wpAny_bind (wpAny_storeSet_of ho hd ?_ (by rw [hes, sizeLine_eq]; omega))
  have sb : Heap.SameBut a s.heap (s.heap.update a (Obj.putSet es1 t1)) := Heap.SameBut.update ..
  have ho1 := store_at (es' := es1) (t' := t1) ho hd
  generalize s.heap.update a (Obj.putSet es1 t1) = h1 at sb ho1 ⊢
  have tup1 : ∀ p ∈ L1, IsT P w h1 p.2 p.1 := fun p hp => by
    rcases List.mem_cons.mp (pm.mem_iff.mp hp) with e | hp
    · rw [e]; exact isT_same hx ho hd sb
    · exact isT_same (B.its p hp) ho hd sb
  have ld1 : w.params.followText "set-order" = true ∨ t1.led = true := by rw [q5]; exact B.ld
  by_cases hf : t1.tooFull = true
  · first
      | (refine wpAny_bind ?_; refine wp_if_pos (by simp [hf]) ?_)
      | (refine wp_if_pos (by simp [hf]) ?_; refine wpAny_bind ?_)
    have hfull : (L.length + 1) * 5 ≥ t1.mask * 3 := by
      have z := hf
      unfold SetTable.tooFull at z
      rw [decide_eq_true_eq, q9, List.length_map] at z
      exact z
    rw [hsz]
    have hsz1 : t1.place.size = es1.size := by
      have z : t1.place.size = _ := q3.sz
      rw [List.length_map, hlen] at z
      rw [z, hes]
    have two : (t.mask = 7 ∧ L.length = 4) ∨ (t.mask = 31 ∧ L.length = 18) := by
      rcases B.tb.mok with e | e | e
      · exact .inl ⟨e, by rw [q4, e] at hfull; rw [e] at hrm; omega⟩
      · exact .inr ⟨e, by rw [q4, e] at hfull; rw [e] at hrm; omega⟩
      · rw [q4, e] at hfull; omega
    have go : ∀ M, SetTable.sizeAbove (SetTable.grown (L.length + 1)) - 1 = M → MaskOk M → SetTable.sizeAbove (SetTable.grown (L.length + 1)) ≤ 128 → (L.length + 1) * 5 < M * 3 →
        wpAny (model P w) A (setRelay a (SetTable.grown (L.length + 1))) (fun _ s' => wpAny (model P w) A (pure true) Q E s') E { s with heap := h1 } := fun M m1 m2 m3 m4 => by
      refine relay_at (s := { s with heap := h1 }) ho1 ⟨hex.1, hex.2.1, hex.2.2⟩ rfl hrow hsz1 q3.dm (by rw [hes, q4]; rcases two with ⟨e, e2⟩ | ⟨e, e2⟩ <;> omega) nd1 tup1 hp1 ld1 (by rw [hlen]; rcases two with ⟨e, e2⟩ | ⟨e, e2⟩ <;> omega) m1 m2 m3 (by rw [hlen]; exact m4) ?_
      intro h2 L2 es2 ep2 t2 sb2 R2 pm2
      exact wpAny_pure (hQ true h2 L2 es2 ep2 t2 (sb.trans sb2) ⟨R2.ob, R2.rows, R2.tab, R2.nd, R2.tup, R2.plain, R2.led, R2.room⟩ (fun z => absurd z hm) fun _ => pm2.trans pm)
    rcases two with ⟨_, e2⟩ | ⟨_, e2⟩
    · exact go 31 (by rw [e2, size_20]) (.inr (.inl rfl)) (by rw [e2, size_20]; decide) (by omega)
    · exact go 127 (by rw [e2, size_76]) (.inr (.inr rfl)) (by rw [e2, size_76]; decide) (by omega)
  · first
      | refine wp_if_neg (by simp [hf]) ?_
      | (refine wpAny_bind ?_; refine wp_if_neg (by simp [hf]) ?_; refine wpAny_pure ?_)
    refine wpAny_pure (hQ true h1 L1 es1 (ep + 1) t1 sb ⟨⟨_, ho1, ⟨hex.1, hex.2.1, hex.2.2⟩, rfl⟩, hrow, q3, nd1, tup1, hp1, ld1, ?_⟩ (fun z => absurd z hm) fun _ => pm)
    have z := hf
    unfold SetTable.tooFull at z
    rw [decide_eq_true_eq, q9, List.length_map] at z
    rw [hlen]
    omega
theorem nodup_le {α : Type} [DecidableEq α] : ∀ (l D : List α), l.Nodup → (∀ x ∈ l, x ∈ D) → l.length ≤ D.length
  | [], _, _, _ => Nat.zero_le _
  | x :: l, D, hn, hs => by
    obtain ⟨h1, h2⟩ := List.nodup_cons.mp hn
    have hx : x ∈ D := hs x List.mem_cons_self
    have ih := nodup_le l (D.erase x) h2 fun y hy => (List.mem_erase_of_ne (fun e : y = x => h1 (by rw [← e]; exact hy))).2 (hs y (List.mem_cons_of_mem _ hy))
    have e := List.length_erase_of_mem hx
    have hp : 0 < D.length := List.length_pos_of_mem hx
    rw [List.length_cons]
    omega
theorem Bag.moved (B : Bag P w s.heap a L es ep t) {h' : Heap} (ha : ∀ o, s.heap.get? a = some o → h'.get? a = some o) (ht : ∀ p ∈ L, IsT P w h' p.2 p.1) : Bag P w h' a L es ep t :=
  let ⟨o, ho, r⟩ := B.obj; ⟨⟨o, ha o ho, r⟩, B.row, B.tb, B.nod, ht, B.pl, B.ld, B.rm⟩
/-- set.update's loop -/
theorem bag_loop {I : Addr} {fp wr : List Addr} {G : Array GenState → Array GenState → Prop} {n : Nat} {Pv : Nat → Value → Prop} {St : Nat → Shared → Prop} {R : Result → Shared → Prop} (W : WalksS P w A.in1 I fp wr G n Pv St) (S : Addr) (hSf : S ∉ fp)
    (ks : Pairs) (hn : n = ks.length) (U : List (List Int)) (hU : ∀ p ∈ ks, p.2 ∈ U) (hU2 : U.length ≤ 76) (hval : ∀ i v, Pv i v → ∃ p, ks[i]? = some p ∧ v = .ref p.1) (h0 : Heap) (hk : ∀ p ∈ ks, IsT P w h0 p.2 p.1) (hS0 : h0.get? S = none)
    (hw0 : ∀ b ∈ wr, h0.get? b = none) (hu : A.in1.units < cLine) : ∀ (k i : Nat) (s : Shared), n - i = k → i ≤ n → St i s → Grow h0 s.heap → (∃ L es ep t, Bag P w s.heap S L es ep t ∧ Got ks i L) →
      (∀ s' L es ep t, Moved (S :: wr) G s s' → Bag P w s'.heap S L es ep t → Got ks n L → Grow h0 s'.heap → R (.ok (.ret .none)) s') → codeAny (model P w) A (.builtin "set.update.loop" ⟨[.ref S, .ref I], []⟩) R s := by
  have hSw : S ∉ wr := fun z => hSf (W.sub _ z)
  have up : ∀ b ∈ wr, b ∈ S :: wr := fun b hb => List.mem_cons_of_mem _ hb
  have grow : ∀ {s s' : Shared}, Moved wr G s s' → Grow h0 s.heap → Grow h0 s'.heap := fun hm g b o e => hm.heap b o (fun z => by rw [hw0 b z] at e; cases e) (g b o e)
  intro k
  induction k with
  | zero =>
    intro i s hki hi hst hg ⟨L, es, ep, t, hB, got⟩ hR
    obtain rfl : i = n := by omega
    refine codeAny_builtin F.entry_set_update_loop ?_
    rw [Around.under_plainId F.plain_set_update_loop _]
    show wpAny _ A.in1 (pyNext (.ref I) >>= _) _ _ s
    refine wpAny_bind (W.done s _ _ hst fun s' hm => ?_)
    have hg' := grow hm hg
    exact wpAny_pure (hR s' L es ep t (hm.mono up) (hB.moved (fun o e => hm.heap S o hSw e) fun p hp => isT_keep (hk p (List.mem_of_mem_take (got.sub p hp))) hg') got hg')
  | succ k ih =>
    intro i s hki hi hst hg ⟨L, es, ep, t, hB, got⟩ hR
    have hlt : i < n := by omega
    refine codeAny_builtin F.entry_set_update_loop ?_
    rw [Around.under_plainId F.plain_set_update_loop _]
    show wpAny _ A.in1 (pyNext (.ref I) >>= _) _ _ s
    refine wpAny_bind (W.item i s _ _ hlt hst fun v s' hP hst' hm => ?_)
    obtain ⟨p, hp, rfl⟩ := hval i v hP
    have hpm : p ∈ ks := List.mem_of_getElem? hp
    have hg' := grow hm hg
    have hB' : Bag P w s'.heap S L es ep t := hB.moved (fun o e => hm.heap S o hSw e) fun q hq => isT_keep (hk q (List.mem_of_mem_take (got.sub q hq))) hg'
    have hx : IsT P w s'.heap p.2 p.1 := isT_keep (hk p hpm) hg'
    show wpAny _ A.in1 (holding [Value.ref p.1] (setAdd S (.ref p.1)) >>= _) _ _ s'
    refine wpAny_bind (wpAny_holding ?_)
    unfold setAdd
    refine wpAny_holding ?_
    refine wpAny_bind (wpAny_pyHash_tuple hu hx ?_)
    have hroom : L.length + 1 ≤ 76 ∨ p.2 ∈ L.map (·.2) := by
      rcases Classical.em (p.2 ∈ L.map (·.2)) with c | c
      · exact .inr c
      · refine .inl (Nat.le_trans ?_ hU2)
        have z := nodup_le (p.2 :: L.map (·.2)) U (List.nodup_cons.mpr ⟨c, hB.nod⟩) fun y hy => by
          rcases List.mem_cons.mp hy with e | hy
          · rw [e]; exact hU p hpm
          · obtain ⟨q, hq, rfl⟩ := List.mem_map.mp hy
            exact hU q (List.mem_of_mem_take (got.sub q hq))
        rw [List.length_cons, List.length_map] at z
        exact z
    refine bag_add (s := { s' with toks := s'.toks + (p.2.length + 1) }) hB' hx hu hroom fun b h' L' es' ep' t' sb hB2 c1 c2 => ?_
    have got' : Got ks (i + 1) L' := by
      rcases Classical.em (p.2 ∈ L.map (·.2)) with c | c
      · rw [c1 c]; exact got.same hp c
      · exact got.more hp (c2 c)
    have hg2 : Grow h0 h' := fun b o e => (sb.2 b (fun z => by rw [z, hS0] at e; cases e)).trans (hg' b o e)
    refine wpAny_pure ⟨plainId_quiet F.plain_set_update_loop _, ih (i + 1) _ (by omega) hlt (W.frame _ s' _ _ hst' (Nat.le_add_right _ _) fun b hb o e => ?_) hg2 ⟨L', es', ep', t', hB2, got'⟩ fun s'' L2 es2 ep2 t2 hm2 hB3 got2 hg3 => ?_⟩
    · rw [sb.2 b (fun z : b = S => hSf (by rw [← z]; exact hb))]; exact e
    · refine hR s'' L2 es2 ep2 t2 (Moved.trans W.gtrans ((hm.mono up).then_heap (Nat.le_add_right _ _) fun b o hb e => ?_) hm2) hB3 got2 hg3
      rw [sb.2 b (fun z => hb (by rw [z]; exact List.mem_cons_self))]; exact e
end
end Pe
end

section
set_option linter.all false
set_option maxRecDepth 100000
set_option maxHeartbeats 2000000
/-! set(t) of a tuple of tuples of ints. -/
namespace Pe
open PySem PySem.Spec PyProof.Rows L2
section
variable {P : Program} {w : World} {A : Around} {E : Value → Shared → Prop} {s : Shared}
abbrev freshSet (w : World) : Obj := { cls := .type "set", dict := none, data := .set #[] 0 (.fresh 0 0 (!w.params.followText "set-order")) }
set_option maxHeartbeats 4000000 in
/-- set(t), t a tuple of tuples of ints -/
theorem call_bag {l : Addr} {items : Array Value} (ks : Pairs) {Q : Value → Shared → Prop} (hh : A.handled = none) (hl : s.heap.IsTuple l items) (hit : items.toList = ks.map vRef) (hk : ∀ p ∈ ks, IsT P w s.heap p.2 p.1)
    (U : List (List Int)) (hU : ∀ p ∈ ks, p.2 ∈ U) (hU2 : U.length ≤ 76) (hu : A.units + 3 < cLine)
    (h : ∀ (h' : Heap) (tk : Nat) L es ep t, Bag P w h' s.heap.objs.size L es ep t → Got ks ks.length L → Grow s.heap h' → Q (.ref s.heap.objs.size) { s with heap := h', toks := tk }) :
    wpAny (model P w) A (call (.type "set") [.ref l]) Q E s := by
  have hsz : items.size = ks.length := by
    have q : items.toList.length = (ks.map vRef).length := congrArg List.length hit
    rw [Array.length_toList, List.length_map] at q
    exact q
  obtain ⟨c, tl, hmro⟩ := PySem.F.called_set.mro
  have hmade := PySem.F.called_set.made
  have hsub := PySem.F.called_set.sub
  refine wpAny_call (codeAny_of_tree ?_)
  show wpAny _ _ (callAny (.type "set") _) _ _ _
  refine wpAny_pure ⟨Code.quiet_builtin _ (by decide +kernel), codeAny_builtin PySem.F.entry_type_call ?_⟩
  rw [Around.under_plain (weight_type_call_type "set" [.ref l] []) rfl]
  have h1 := PySem.F.called_set.notType
  have h2 := PySem.F.called_set.canCreate
  have hct := PySem.F.typeCall_set_1 (.ref l)
  repeat (any_goals (first | assumption | wp_step))
  refine codeAny_mono (code_set_led1 (.ref l) (E := E) (Q₁ := fun ob s1 => ob = .ref s.heap.objs.size ∧ s1 = { s with heap := s.heap.push (freshSet w) }) ⟨rfl, rfl⟩) fun r s1 hr => ?_
  cases r with
  | error e => exact hr
  | ok fl =>
    cases fl with
    | ret ob =>
      obtain ⟨rfl, rfl⟩ := hr
      have hS : (s.heap.push (freshSet w)).get? s.heap.objs.size = some (freshSet w) := Heap.get?_push_size _ rfl
      have hT : Shared.TypeIs { s with heap := s.heap.push (freshSet w) } (.ref s.heap.objs.size) "set" := ⟨_, hS, rfl⟩
      have hli := PySem.F.called_set.init.lookup
      have hbi := PySem.F.called_set.init.bind (.ref s.heap.objs.size)
      repeat (any_goals (first | assumption | wp_step))
      refine codeAny_mono (codeAny_call_builtin (R := wants (fun r s2 => r = .none ∧ ∃ h' tk L es ep t, s2 = { s with heap := h', toks := tk } ∧ Bag P w h' s.heap.objs.size L es ep t ∧ Got ks ks.length L ∧ Grow s.heap h') E) PySem.F.called_set.init.plain PySem.F.entry_set_init (check_set_init_1 hT ?_)) fun r2 s2 hr2 => ?_
      · obtain ⟨ol, hol, hcl, nl, hdl⟩ := hl
        obtain ⟨oc, od, ot, osl⟩ := ol
        simp only at hcl hdl
        subst hcl; subst hdl
        have hol2 : (s.heap.push (freshSet w)).get? l = some { cls := .type "tuple", dict := od, data := .seq items nl, slots := osl } := Heap.get?_push_of_some _ hol
        have hs1 := PySem.F.sub_tuple_set
        have hs2 := PySem.F.sub_tuple_frozenset
        have hne : (Value.type "tuple" == Value.type "dict") = false := by decide
        have hl1 : (s.heap.push (freshSet w)).IsTuple l items := ⟨_, hol2, rfl, nl, rfl⟩
        unfold Builtin.«set.__init__» noKeywords Builtin.Frozenset.updateFrom
        generalize hPI : pyIter = PI
        wp_walk
        subst hPI
        refine wpAny_pyIter_tuple hl1 ?_
        refine wpAny_bind (wpAny_runValue ?_)
        have hlS : l < s.heap.objs.size := Heap.lt_size hol
        have hh3 : A.in1.in1.in1.handled = none := by simp [hh]
        have hps : (s.heap.push (freshSet w)).objs.size = s.heap.objs.size + 1 := Heap.size_push ..
        have hneI : l ≠ (s.heap.push (freshSet w)).objs.size := by rw [hps]; exact Nat.ne_of_lt (Nat.lt_succ_of_lt hlS)
        have hSf : s.heap.objs.size ∉ [(s.heap.push (freshSet w)).objs.size, l] := by
          rw [hps]; simp only [List.mem_cons, List.not_mem_nil, or_false, not_or]
          exact ⟨Nat.ne_of_lt (Nat.lt_succ_self _), Nat.ne_of_gt hlS⟩
        have hval : ∀ (i : Nat) (v : Value), items[i]? = some v → ∃ p, ks[i]? = some p ∧ v = .ref p.1 := fun i v hv => by
          have q : items.toList[i]? = some v := by rw [Array.getElem?_toList]; exact hv
          rw [hit, List.getElem?_map] at q
          obtain ⟨p, e1, e2⟩ := Option.map_eq_some_iff.mp q
          exact ⟨p, e1, e2.symm⟩
        have gone : ∀ b, s.heap.objs.size ≤ b → s.heap.get? b = none := fun b hb => by
          cases q : s.heap.get? b with
          | none => rfl
          | some o => exact absurd (Nat.lt_of_lt_of_le (Heap.lt_size q) hb) (Nat.lt_irrefl _)
        refine bag_loop ((Walks.tuple hh3 _ l hneI items).toS) s.heap.objs.size hSf ks hsz U hU hU2 hval s.heap hk (gone _ (Nat.le_refl _)) (fun b hb => gone b (by
            rw [List.mem_singleton.mp hb, hps]
            exact Nat.le_succ _)) hu (items.size - 0) 0 _ (by omega) (Nat.zero_le _)
          ⟨⟨_, Heap.get?_push_size _ rfl, rfl, rfl⟩, (hl1.push _)⟩ (fun b o e => Heap.get?_push_of_some _ (Heap.get?_push_of_some _ e)) ⟨[], #[], 0, _, bag_of (setTR_fresh (Heap.get?_push_of_some _ hS)), Got.zero ks⟩ ?_
        intro s' L es ep t hm hB got hg
        obtain ⟨h', g2, d', tk', os'⟩ := s'
        have eg : g2 = s.gens := hm.gens
        have ed : d' = s.drawn := hm.drawn
        have eo : os' = s.os := hm.os
        subst eg; subst ed; subst eo
        show wpAny _ _ _ _ _ _
        refine wpAny_pure ?_
        show wpAny _ _ (ret Value.none) _ _ _
        rw [hsz] at got
        exact wpAny_pure ⟨rfl, h', tk', L, es, ep, t, rfl, hB, got, hg⟩
      · cases r2 with
        | error e => exact hr2
        | ok fl2 =>
          cases fl2 with
          | ret r =>
            obtain ⟨rfl, h', tk, L, es, ep, t, rfl, hB, got, hg⟩ := hr2
            repeat (any_goals (first | assumption | wp_step))
            exact h _ _ _ _ _ _ hB got hg
          | _ => exact hr2.elim
    | _ => exact hr.elim
end
end Pe
end

section
set_option linter.all false
set_option maxRecDepth 100000
set_option maxHeartbeats 2000000
/-! the rules of such sets. -/
namespace Pe
open PySem PySem.Spec PyProof.Rows L2
/-- the set at a, without its tuples -/
structure Bag0 (P : Program) (w : World) (h : Heap) (a : Addr) (L : Pairs) : Prop where
  ex : ∃ (es : Array (Int × Value)) (ep : Nat) (t : SetTable), (∃ o, h.get? a = some o ∧ o.ExactSet ∧ o.data = .set es ep t) ∧ es.toList = rowsOf P w L ∧ TabOk t (L.map fun p => thash P w p.2) ∧ (L.map (·.2)).Nodup ∧ t.plain = true ∧
    (w.params.followText "set-order" = true ∨ t.led = true) ∧ L.length * 5 < t.mask * 3
def BagO (P : Program) (w : World) (a : Addr) (L : Pairs) : HO := .ext fun h => Bag0 P w h a L
section
variable {P : Program} {w : World} {H : Hp} {h : Heap} {a : Addr} {L : Pairs}
theorem Bag0.full (B : Bag0 P w h a L) (ht : ∀ p ∈ L, IsT P w h p.2 p.1) : ∃ es ep t, Bag P w h a L es ep t := by
  obtain ⟨es, ep, t, h1, h2, h3, h4, h5, h6, h7⟩ := B.ex
  exact ⟨es, ep, t, h1, h2, h3, h4, ht, h5, h6, h7⟩
theorem bagO_new {es : Array (Int × Value)} {ep : Nat} {t : SetTable} (B : Bag P w h a L es ep t) : ObjOk P w H h a (BagO P w a L) := by
  have ⟨o, ho, r⟩ := B.obj
  refine ⟨⟨es, ep, t, B.obj, B.row, B.tb, B.nod, B.pl, B.ld, B.rm⟩, ⟨o, ho⟩, fun h1 h2 p k => ?_⟩
  have ⟨es', ep', t', ⟨o', ho', r'⟩, q'⟩ := Bag0.ex p
  exact ⟨es', ep', t', ⟨o', k o' ho', r'⟩, q'⟩
end
/-- the tuples of a list of pairs stand -/
def TupsAt (K : PySem.W.Frag) (H : Hp) (ks : Pairs) : Prop := ∀ p ∈ ks, SqT K H p.1 (p.2.map V.int)
section
variable {X : Cx}
def rSetTT (K : PySem.W.Frag) (P : Program) (w : World) : List V → Hp → VK → Prop := fun vs H Q => ∃ (a : Addr) (ks : Pairs) (U : List (List Int)), vs = [V.ref a] ∧ SqT K H a (ks.map xRef) ∧ TupsAt K H ks ∧ (∀ p ∈ ks, p.2 ∈ U) ∧ U.length ≤ 76 ∧
  ∀ p L, H p = none → (∀ q ∈ L, q ∈ ks) → (∀ q ∈ ks, q.2 ∈ L.map (·.2)) → (L.map (·.2)).Nodup → Q (.ref p) (upd H p (BagO P w p L))
/-- set(t) -/
theorem cr_setTT (hc : X.calm = true) (hu : X.A.units + 64 < cLine) : CallR X (.type "set") (rSetTT X.K X.prog X.w) := by
  intro pins s σ H vs us Q I r h
  obtain ⟨a, ks, U, rfl, ha, hk, hU, hU2, q⟩ := h
  rw [Vals.ref1 r]
  obtain ⟨its, rv, pl, hz⟩ := I.tuple ha
  have hn : H s.heap.objs.size = none := I.hok.fresh (Nat.le_refl _)
  refine call_bag (P := X.prog) (w := X.w) ks (I.ok.hd hc) pl (by simpa using vals_xRef rv) (fun p hp => I.isT (hk p hp)) U hU hU2 (by omega) fun h' tk L es ep t B got g => ?_
  refine ⟨.ref s.heap.objs.size, upd H s.heap.objs.size (BagO X.prog X.w s.heap.objs.size L), I.laid (t' := tk) g (Nat.le_refl _) (bagO_new B), rfl, q _ L hn (fun p hp => List.mem_of_mem_take (got.sub p hp)) (fun p hp => got.all p (by rw [List.take_length]; exact hp)) B.nod⟩
def rInBag (K : PySem.W.Frag) (P : Program) (w : World) : R2 := fun x y H Q => ∃ (t a : Addr) (k : List Int) (L : Pairs), x = .ref t ∧ y = .ref a ∧ SqT K H t (k.map V.int) ∧ H a = some (BagO P w a L) ∧ TupsAt K H L ∧ Q (.bl (decide (k ∈ L.map (·.2)))) H
/-- t in a set of tuples -/
theorem op_inBag (hu : X.A.units + 64 < cLine) : OpR X (compareOp .In) (rInBag X.K X.prog X.w) := by
  intro pins s σ H x y v u Q I rx ry h
  obtain ⟨t, a, k, L, rfl, rfl, ht, ha, hk, q⟩ := h
  cases rx
  cases ry
  obtain ⟨es, ep, tb, B⟩ := Bag0.full (I.hok a _ ha).1 fun p hp => I.isT (hk p hp)
  exact bag_in B (I.isT ht) (by omega) fun tk => ⟨.bl _, H, I.tok tk, rfl, q⟩
def rSortBag (K : PySem.W.Frag) (P : Program) (w : World) : List V → Hp → VK → Prop := fun vs H Q => ∃ (a : Addr) (L : Pairs) (d : Nat) (B : Int), vs = [V.ref a] ∧ H a = some (BagO P w a L) ∧ TupsAt K H L ∧ L.length < 64 ∧ 1 ≤ d ∧ (∀ p ∈ L, p.2.length = d ∧ TS.Bd B p.2) ∧
  ∀ (L' : Pairs) (p : Addr), L'.Perm L → (L'.map (·.2)).Nodup → (L'.Pairwise fun q r => TS.code B q.2 ≤ TS.code B r.2) → H p = none → Q (.ref p) (upd H p (.lst (L'.map xRef)))
/-- sorted(set) -/
theorem cr_sortBag (hc : X.calm = true) : CallR X (.builtin "sorted") (rSortBag X.K X.prog X.w) := by
  intro pins s σ H vs us Q I r h
  obtain ⟨a, L, d, Bd, rfl, ha, hk, hf, hd, hB, q⟩ := h
  obtain ⟨es, ep, t, B⟩ := Bag0.full (I.hok a _ ha).1 fun p hp => I.isT (hk p hp)
  have R : SetTR X.prog X.w s.heap a L es ep t := ⟨B.obj, B.row, B.tb, B.nod, B.its, B.pl, B.ld, B.rm, hf⟩
  rw [Vals.ref1 r]
  refine sorted_setT R (I.ok.hd hc) hd hB fun s' p out c L' g hg ho hp hget hout pm pw => ?_
  obtain ⟨h', g2, d', tk', os'⟩ := s'
  have eg : g2 = s.gens := hg
  have eo : os' = s.os := ho
  subst eg; subst eo
  have hn : H p = none := I.hok.fresh hp
  have hlen : (L'.map xRef).length ≤ sizeLine := by rw [List.length_map, pm.length_eq, sizeLine_eq]; omega
  have hv : Vals (L'.map xRef) out.toList := by rw [hout]; exact vals_of_xRef L'
  have J : Inv X pins σ (upd H p (.lst (L'.map xRef))) { s with heap := h', gens := s.gens, drawn := d', toks := tk' } :=
    I.call (ch := []) (Un.laid g hp hn) (I.hok.laid g hp ⟨hlen, out.toList, c, hv, by rw [Array.toArray_toList]; exact hget⟩) I.bare (fun _ z => nomatch z)
  exact ⟨.ref p, _, J, rfl, q L' p pm ((pm.map (·.2)).nodup_iff.mpr B.nod) pw hn⟩
end
end Pe
end

section
set_option linter.all false
set_option maxRecDepth 100000
set_option maxHeartbeats 2000000
/-! tuples of ints and tuples of such as data: ==, in. -/
namespace Pe
open PySem PySem.Spec PyProof.Rows L2
abbrev intsD (k : List Int) : List PyData := k.map PyData.int
abbrev tupD (k : List Int) : PyData := .tuple (intsD k)
theorem ints_lay : ∀ k : List Int, PyData.canLayAll0 (intsD k) = true
  | [] => by simp [PyData.canLayAll0]
  | n :: k => by simp [PyData.canLayAll0, PyData.canLay0, ints_lay k]
theorem ints_depth : ∀ k : List Int, PyData.depthAll (intsD k) ≤ 1
  | [] => by simp [PyData.depthAll]
  | n :: k => by
    have h1 := ints_depth k
    rw [show intsD (n :: k) = .int n :: intsD k from rfl]
    simp only [PyData.depthAll, PyData.depth]
    omega
theorem tupD_lay (k : List Int) : (tupD k).canLay0 = true := by simp only [PyData.canLay0]; exact ints_lay k
theorem tupD_depth (k : List Int) : (tupD k).depth ≤ 2 := by
  have := ints_depth k
  simp only [PyData.depth]
  omega
theorem tups_lay : ∀ ks : List (List Int), PyData.canLayAll0 (ks.map tupD) = true
  | [] => by simp [PyData.canLayAll0]
  | k :: ks => by simp only [List.map_cons, PyData.canLayAll0, tupD_lay k, tups_lay ks, Bool.and_self]
theorem tups_depth : ∀ ks : List (List Int), PyData.depthAll (ks.map tupD) ≤ 2
  | [] => by simp [PyData.depthAll]
  | k :: ks => by
    have h1 := tups_depth ks
    have h2 := tupD_depth k
    simp only [List.map_cons, PyData.depthAll]
    omega
theorem shaped_of {d : PyData} (h1 : d.canLay0 = true) (h2 : d.depth ≤ 64) : SeqAt.shaped d = true := by
  show (d.canLay0 && decide (d.depth ≤ 64)) = true
  rw [h1, decide_eq_true h2]; rfl
theorem tupD_shaped (k : List Int) : SeqAt.shaped (tupD k) = true := shaped_of (tupD_lay k) (by have := tupD_depth k; omega)
theorem listI_shaped (k : List Int) : SeqAt.shaped (.list (intsD k)) = true := shaped_of (by simp only [PyData.canLay0]; exact ints_lay k) (by have := ints_depth k; simp only [PyData.depth]; omega)
theorem tupsD_shaped (ks : List (List Int)) : SeqAt.shaped (.tuple (ks.map tupD)) = true := shaped_of (by simp only [PyData.canLay0]; exact tups_lay ks) (by have := tups_depth ks; simp only [PyData.depth]; omega)
theorem listD_shaped (ks : List (List Int)) : SeqAt.shaped (.list (ks.map tupD)) = true := shaped_of (by simp only [PyData.canLay0]; exact tups_lay ks) (by have := tups_depth ks; simp only [PyData.depth]; omega)
theorem ints_eqv : ∀ a b : List Int, PyData.eqvAll (intsD a) (intsD b) = decide (a = b)
  | [], [] => by simp [PyData.eqvAll]
  | [], _ :: _ => by simp [PyData.eqvAll]
  | _ :: _, [] => by simp [PyData.eqvAll]
  | x :: a, y :: b => by
    have ih := ints_eqv a b
    simp only [List.map_cons, PyData.eqvAll, PyData.eqv, ih]
    by_cases h1 : x = y <;> by_cases h2 : a = b <;> simp [h1, h2]
theorem tupD_eqv (a b : List Int) : PyData.eqv (tupD a) (tupD b) = decide (a = b) := by
  simp only [PyData.eqv]; exact ints_eqv a b
theorem tups_eqv : ∀ a b : List (List Int), PyData.eqvAll (a.map tupD) (b.map tupD) = decide (a = b)
  | [], [] => by simp [PyData.eqvAll]
  | [], _ :: _ => by simp [PyData.eqvAll]
  | _ :: _, [] => by simp [PyData.eqvAll]
  | x :: a, y :: b => by
    have ih := tups_eqv a b
    have h0 := tupD_eqv x y
    simp only [List.map_cons, PyData.eqvAll, ih, h0]
    by_cases h1 : x = y <;> by_cases h2 : a = b <;> simp [h1, h2]
theorem list_eqv (a b : List (List Int)) : PyData.eqv (.list (a.map tupD)) (.list (b.map tupD)) = decide (a = b) := by
  simp only [PyData.eqv]; exact tups_eqv a b
theorem listI_eqv (a b : List Int) : PyData.eqv (.list (intsD a)) (.list (intsD b)) = decide (a = b) := by
  simp only [PyData.eqv]; exact ints_eqv a b
section
variable {K : PySem.W.Frag} {H : Hp}
theorem dpInts : ∀ k : List Int, DpAll K H (k.map V.int) (intsD k)
  | [] => .nil
  | n :: k => .cons (.int n) (dpInts k)
theorem dpTup {a : Addr} {k : List Int} (h : SqT K H a (k.map V.int)) : Dp K H (.ref a) (tupD k) := .tup h (dpInts k)
theorem dpListI {a : Addr} {k : List Int} (h : SqL K H a (k.map V.int)) : Dp K H (.ref a) (.list (intsD k)) := .lst h (dpInts k)
theorem dpTups : ∀ {ks : Pairs}, TupsAt K H ks → DpAll K H (ks.map xRef) ((ks.map (·.2)).map tupD)
  | [], _ => .nil
  | p :: ks, h => .cons (dpTup (h p List.mem_cons_self)) (dpTups fun q hq => h q (List.mem_cons_of_mem _ hq))
end
section
variable {X : Cx}
def rInTT (K : PySem.W.Frag) (neg : Bool) : R2 := fun x y H Q => ∃ (t a : Addr) (k : List Int) (ks : Pairs), x = .ref t ∧ y = .ref a ∧ SqT K H t (k.map V.int) ∧ SqT K H a (ks.map xRef) ∧ TupsAt K H ks ∧ Q (.bl (if neg then !decide (k ∈ ks.map (·.2)) else decide (k ∈ ks.map (·.2)))) H
theorem any_in (k : List Int) : ∀ ks : List (List Int), ((ks.map tupD).any fun y => PyData.eqv y (tupD k)) = decide (k ∈ ks)
  | [] => by simp
  | x :: ks => by
    rw [List.map_cons, List.any_cons, any_in k ks, tupD_eqv]
    by_cases h1 : x = k
    · simp [h1]
    · have h2 : ¬ k = x := fun z => h1 z.symm
      simp [h1, h2]
/-- t in a tuple of tuples -/
theorem op_inTT (hu : X.A.units + 65 < cLine) : OpR X (compareOp .In) (rInTT X.K false) := by
  intro pins s σ H x y v u Q I rx ry h
  obtain ⟨t, a, k, ks, rfl, rfl, ht, ha, hk, q⟩ := h
  obtain ⟨as, r1⟩ := Dp.reads I (tupD k) _ v (dpTup ht) rx
  obtain ⟨bs, r2⟩ := Dp.reads I (.tuple ((ks.map (·.2)).map tupD)) _ u (.tup ha (dpTups hk)) ry
  refine SeqAt.in_tuple_reads r2 r1 (tups_lay _) (tupD_lay k) ?_ ?_
  · have := tupD_depth k
    have h3 : min (PyData.depthAll ((ks.map (·.2)).map tupD)) (tupD k).depth ≤ 2 := Nat.le_trans (Nat.min_le_right _ _) this
    omega
  · rw [any_in]
    exact ⟨.bl _, H, I, rfl, q⟩
theorem op_notInTT (hu : X.A.units + 65 < cLine) : OpR X (compareOp .NotIn) (rInTT X.K true) := by
  intro pins s σ H x y v u Q I rx ry h
  obtain ⟨t, a, k, ks, rfl, rfl, ht, ha, hk, q⟩ := h
  obtain ⟨as, r1⟩ := Dp.reads I (tupD k) _ v (dpTup ht) rx
  obtain ⟨bs, r2⟩ := Dp.reads I (.tuple ((ks.map (·.2)).map tupD)) _ u (.tup ha (dpTups hk)) ry
  refine SeqAt.notIn_tuple_reads r2 r1 (tups_lay _) (tupD_lay k) ?_ ?_
  · have := tupD_depth k
    have h3 : min (PyData.depthAll ((ks.map (·.2)).map tupD)) (tupD k).depth ≤ 2 := Nat.le_trans (Nat.min_le_right _ _) this
    omega
  · rw [any_in]
    exact ⟨.bl _, H, I, rfl, q⟩
end
end Pe
end

section
set_option linter.all false
set_option maxRecDepth 100000
set_option maxHeartbeats 2000000
/-! dicts whose keys are tuples of ints that are known otherwise. -/
namespace Pe
open PySem PySem.Spec PyProof.Rows L2
abbrev Ents := List (List Int × Addr × V)
abbrev RawEnts := List (List Int × Addr × Value)
abbrev EntR : Ents → RawEnts → Prop := Paired fun p q => p.1 = q.1 ∧ p.2.1 = q.2.1 ∧ RelV p.2.2 q.2.2
structure Dic0 (P : Program) (w : World) (h : Heap) (d : Addr) (L : Ents) : Prop where
  ex : ∃ (vs : RawEnts) (es : Array DictEntry) (ep : Nat), EntR L vs ∧ (d == sysModules) = false ∧ (L.map (·.1)).Nodup ∧ L.length ≤ 1000 ∧ h.DictRaw d es ep ∧ es.toList = vs.map (entryOfKey (TK P w))
def DicO (P : Program) (w : World) (d : Addr) (L : Ents) : HO := .ext fun h => Dic0 P w h d L
/-- the keys stand -/
def KeysAt (K : PySem.W.Frag) (H : Hp) (L : Ents) : Prop := ∀ p ∈ L, SqT K H p.2.1 (p.1.map V.int)
theorem EntR.keys : ∀ {L : Ents} {vs : RawEnts}, EntR L vs → vs.map (·.1) = L.map (·.1)
  | _, _, .nil => rfl
  | _, _, .cons h t => by rw [List.map_cons, List.map_cons, EntR.keys t, h.1]
theorem EntR.mem : ∀ {L : Ents} {vs : RawEnts}, EntR L vs → ∀ q ∈ vs, ∃ p ∈ L, p.1 = q.1 ∧ p.2.1 = q.2.1
  | _, _, .nil, q, hq => absurd hq List.not_mem_nil
  | _, _, .cons h t, q, hq => by
    rcases List.mem_cons.mp hq with e | hq
    · exact ⟨_, List.mem_cons_self, by rw [e]; exact h.1, by rw [e]; exact h.2.1⟩
    · obtain ⟨p, hp, r⟩ := EntR.mem t q hq
      exact ⟨p, List.mem_cons_of_mem _ hp, r⟩
theorem EntR.get : ∀ {L : Ents} {vs : RawEnts}, EntR L vs → ∀ (i : Nat) p, L[i]? = some p → ∃ u, vs[i]? = some (p.1, p.2.1, u) ∧ RelV p.2.2 u
  | _, _, .nil, i, p, h => by simp at h
  | _, _, .cons (a := a) (b := b) h t, 0, p, e => by
    cases e
    obtain ⟨b1, b2, b3⟩ := b
    obtain ⟨h1, h2, h3⟩ := h
    exact ⟨b3, by rw [h1, h2]; rfl, h3⟩
  | _, _, .cons h t, i + 1, p, e => EntR.get t i p (by simpa using e)
theorem EntR.length {L : Ents} {vs : RawEnts} (r : EntR L vs) : vs.length = L.length := (Paired.length r).symm
theorem EntR.append {L : Ents} {vs : RawEnts} {p : List Int × Addr × V} {q : List Int × Addr × Value} (h : p.1 = q.1 ∧ p.2.1 = q.2.1 ∧ RelV p.2.2 q.2.2) : EntR L vs → EntR (L ++ [p]) (vs ++ [q]) := by
  intro r
  induction r with
  | nil => exact .cons h .nil
  | cons a t ih => exact .cons a ih
section
variable {P : Program} {w : World} {H : Hp} {h : Heap} {d : Addr} {L : Ents}
theorem dicO_new {vs : RawEnts} {es : Array DictEntry} {ep : Nat} (r : EntR L vs) (lo : (d == sysModules) = false) (nd : (L.map (·.1)).Nodup) (hz : L.length ≤ 1000) (hr : h.DictRaw d es ep) (he : es.toList = vs.map (entryOfKey (TK P w))) : ObjOk P w H h d (DicO P w d L) := by
  refine ⟨⟨vs, es, ep, r, lo, nd, hz, hr, he⟩, let ⟨o, ho, _⟩ := hr; ⟨o, ho⟩, fun h1 h2 p k => ?_⟩
  have ⟨vs', es', ep', r', lo', nd', hz', hr', he'⟩ := Dic0.ex p
  exact ⟨vs', es', ep', r', lo', nd', hz', hr'.at k, he'⟩
end
section
variable {X : Cx} {pins : List (Addr × Obj)} {σ : L2.St} {H : Hp} {s : Shared} {d : Addr} {L : Ents}
theorem dic_of (I : Inv X pins σ H s) (hd : H d = some (DicO X.prog X.w d L)) (hk : KeysAt X.K H L) : ∃ vs : RawEnts, EntR L vs ∧ (d == sysModules) = false ∧ (L.map (·.1)).Nodup ∧ L.length ≤ 1000 ∧ s.heap.DictOfH (TK X.prog X.w) d vs := by
  have D : Dic0 X.prog X.w s.heap d L := (I.hok d _ hd).1
  obtain ⟨vs, es, ep, r, lo, nd, hz, ⟨o, ho, hx, hdt⟩, he⟩ := D.ex
  refine ⟨vs, r, lo, nd, hz, o, es, ep, ho, hx, hdt, he, fun q hq => ?_, by rw [r.keys]; exact nd⟩
  obtain ⟨p, hp, e1, e2⟩ := r.mem q hq
  have := I.isT (hk p hp)
  rw [e1, e2] at this
  exact this
theorem atKey_cons (x : List Int × Addr × Value) (vs : RawEnts) (k : List Int) : atKey (x :: vs) k = if x.1 = k then some x.2 else atKey vs k := by
  unfold atKey
  by_cases h : x.1 = k
  · rw [List.find?_cons_of_pos (by exact decide_eq_true h), if_pos h]; rfl
  · rw [List.find?_cons_of_neg (by simpa using h), if_neg h]
theorem atKey_in (k : List Int) : ∀ vs : RawEnts, (atKey vs k).isSome = decide (k ∈ vs.map (·.1))
  | [] => rfl
  | x :: vs => by
    rw [atKey_cons, List.map_cons]
    by_cases h : x.1 = k
    · rw [if_pos h, decide_eq_true (by rw [h]; exact List.mem_cons_self)]; rfl
    · rw [if_neg h, atKey_in k vs]
      have h2 : ¬ k = x.1 := fun z => h z.symm
      simp [h2]
theorem dic_in (hu : X.A.units + 1 < cLine) (I : Inv X pins σ H s) {a : Addr} {k : List Int} (hd : H d = some (DicO X.prog X.w d L)) (hk : KeysAt X.K H L) (ha : SqT X.K H a (k.map V.int)) {Q : Value → Shared → Prop} {E : Value → Shared → Prop}
    (h : ∀ tk, Q (.bool (decide (k ∈ L.map (·.1)))) { s with toks := tk }) : wpAny (model X.prog X.w) X.A (compareOp .In (.ref a) (.ref d)) Q E s := by
  obtain ⟨vs, r, lo, nd, hz, D⟩ := dic_of I hd hk
  refine wpAny_in_heap (tupleKind_room_in1 hu) (I.isT ha) lo D ?_
  rw [atKey_in, r.keys]
  exact h _
theorem dic_notIn (hu : X.A.units + 1 < cLine) (I : Inv X pins σ H s) {a : Addr} {k : List Int} (hd : H d = some (DicO X.prog X.w d L)) (hk : KeysAt X.K H L) (ha : SqT X.K H a (k.map V.int)) {Q : Value → Shared → Prop} {E : Value → Shared → Prop}
    (h : ∀ tk, Q (.bool (!decide (k ∈ L.map (·.1)))) { s with toks := tk }) : wpAny (model X.prog X.w) X.A (compareOp .NotIn (.ref a) (.ref d)) Q E s := by
  obtain ⟨vs, r, lo, nd, hz, D⟩ := dic_of I hd hk
  refine wpAny_notIn_heap (tupleKind_room_in1 hu) (I.isT ha) lo D ?_
  rw [atKey_in, r.keys]
  exact h _
/-- None among the keys, none of which has its hash -/
def noneHash : Int := reduceHash 0xFCA86420
theorem dic_noneNotIn (I : Inv X pins σ H s) (hd : H d = some (DicO X.prog X.w d L)) (hk : KeysAt X.K H L) (hh : ∀ p ∈ L, thash X.prog X.w p.1 ≠ noneHash) {Q : Value → Shared → Prop} {E : Value → Shared → Prop}
    (h : ∀ tk, Q (.bool true) { s with toks := tk }) : wpAny (model X.prog X.w) X.A (compareOp .NotIn .none (.ref d)) Q E s := by
  obtain ⟨vs, r, lo, nd, hz, D⟩ := dic_of I hd hk
  obtain ⟨o, es, ep, ho, hx, hdt, he, his, hn⟩ := id D
  show wpAny _ _ (do return .bool (!(← contains (.ref d) .none))) Q E s
  refine wpAny_bind ?_
  unfold contains
  try with_reducible refine wpAny_holding ?_
  refine wpAny_bind (wpAny_specialOf D.typeIs slot_dict_contains.lookup ?_)
  rw [if_neg (by rw [beq_builtin_none]; exact Bool.false_ne_true)]
  refine wpAny_bind (wpAny_callSpecialUnlessNone?_slot (name := Str.ofString "__contains__") D.typeIs slot_dict_contains (wpAny_call_entry slot_dict_contains D.typeIs entry_dict_contains ?_ (args_dict_contains _ _)))
  show wpAny _ _ (dictGet d .none >>= _) _ _ s
  refine wpAny_bind ?_
  unfold dictGet
  try with_reducible refine wpAny_holding ?_
  refine wpAny_bind ((noneKind X.prog X.w).pyHash (k := none) (v := .none) rfl ?_)
  refine wpAny_bind ?_
  have hpl : placesWithHash es.size (fun i => es[i]?.map (·.hash)) ((noneKind X.prog X.w).hash none) = [] := by
    unfold placesWithHash
    rw [List.filter_eq_nil_iff]
    intro i hi hq
    have hq : ((es[i]?.map (·.hash)) == some ((noneKind X.prog X.w).hash none)) = true := hq
    rw [entry_at he i] at hq
    cases hv : vs[i]? with
    | none => rw [hv] at hq; cases hq
    | some q =>
      rw [hv] at hq
      have e1 : thash X.prog X.w q.1 = noneHash := by
        have : (some ((entryOfKey (TK X.prog X.w) q).hash) == some ((noneKind X.prog X.w).hash none)) = true := hq
        exact Option.some.inj (beq_iff_eq.mp this)
      obtain ⟨p, hp, e2, _⟩ := r.mem q (List.mem_of_getElem? hv)
      exact hh p hp (by rw [e2]; exact e1)
  unfold dictFind
  try with_reducible refine wpAny_holding ?_
  refine wpAny_bind (wpAny_dictEntries ho hdt ?_)
  dsimp only
  rw [hpl]
  rw [if_pos (by rfl)]
  show wpAny _ _ (pure none) _ _ _
  refine wpAny_pure (wpAny_pure ?_)
  show wpAny _ _ (Builtin.Dict.pendingKey? d .none >>= _) _ _ _
  exact wpAny_bind (wpAny_pendingKey_other lo (wpAny_pure ⟨_, rfl, wpAny_truthy_bool (wpAny_pure (h _))⟩))
/-- d[k] = v, a new key -/
theorem dic_put (hu : X.A.units + 1 < cLine) (I : Inv X pins σ H s) {a : Addr} {k : List Int} {v : V} {u : Value} (hd : H d = some (DicO X.prog X.w d L)) (hk : KeysAt X.K H L) (ha : SqT X.K H a (k.map V.int)) (hn : k ∉ L.map (·.1)) (hz : L.length < 1000) (rv : RelV v u)
    {Q : Unit → Shared → Prop} {E : Value → Shared → Prop} (h : ∀ s', Inv X pins σ (upd H d (DicO X.prog X.w d (L ++ [(k, a, v)]))) s' → Q () s') : wpAny (model X.prog X.w) X.A (setItem (.ref d) (.ref a) u) Q E s := by
  obtain ⟨vs, r, lo, nd, hz', D⟩ := dic_of I hd hk
  have hno : atKey vs k = none := by
    have z := atKey_in k vs
    rw [r.keys, decide_eq_false hn] at z
    exact Option.isSome_eq_false_iff.mp z |> Option.isNone_iff_eq_none.mp
  refine wpAny_setItem_heap (hsz := by rw [r.length, sizeLine_eq]; omega) (tupleKind_room_in1 hu) (I.isT ha) D fun h' D' hs => h _ ?_
  rw [storedH_new hno] at D'
  obtain ⟨o', es', ep', ho', hx', hdt', he', his', hn'⟩ := D'
  have r' : EntR (L ++ [(k, a, v)]) (vs ++ [(k, a, u)]) := r.append ⟨rfl, rfl, rv⟩
  refine d_write I (by rw [hd]; exact True.intro) hs ⟨o', ho'⟩ (dicO_new r' lo ?_ (by rw [List.length_append]; show L.length + 1 ≤ 1000; omega) ⟨o', ho', hx', hdt'⟩ he')
  rw [← r'.keys]
  exact hn'
/-- d[k] -/
theorem dic_get (hu : X.A.units + 1 < cLine) (I : Inv X pins σ H s) {a b : Addr} {k : List Int} {v : V} {i : Nat} (hd : H d = some (DicO X.prog X.w d L)) (hk : KeysAt X.K H L) (ha : SqT X.K H a (k.map V.int)) (hi : L[i]? = some (k, b, v))
    {Q : Value → Shared → Prop} {E : Value → Shared → Prop} (h : ∀ u tk, RelV v u → Q u { s with toks := tk }) : wpAny (model X.prog X.w) X.A (getItem (.ref d) (.ref a)) Q E s := by
  obtain ⟨vs, r, lo, nd, hz', D⟩ := dic_of I hd hk
  obtain ⟨u, hu', ru⟩ := r.get i _ hi
  exact wpAny_getItem_heap (tupleKind_room_in1 hu) (I.isT ha) D (atKey_of_get (by rw [r.keys]; exact nd) hu') (h u _ ru)
end
section
variable {X : Cx}
/-- y not in d; y may be None -/
def rDicNotIn (K : PySem.W.Frag) (P : Program) (w : World) : R2 := fun y x H Q => ∃ (d : Addr) (L : Ents), x = .ref d ∧ H d = some (DicO P w d L) ∧ KeysAt K H L ∧
  ((∃ (a : Addr) (k : List Int), y = .ref a ∧ SqT K H a (k.map V.int) ∧ Q (.bl (!decide (k ∈ L.map (·.1)))) H) ∨ (y = .non ∧ (∀ p ∈ L, thash P w p.1 ≠ noneHash) ∧ Q (.bl true) H))
theorem op_dicNotIn (hu : X.A.units + 1 < cLine) : OpR X (compareOp .NotIn) (rDicNotIn X.K X.prog X.w) := by
  intro pins s σ H x y v u Q I rx ry h
  obtain ⟨d, L, rfl, hd, hk, h⟩ := h
  cases ry
  rcases h with ⟨a, k, rfl, ha, q⟩ | ⟨rfl, hh, q⟩
  · cases rx
    exact dic_notIn hu I hd hk ha fun tk => ⟨.bl _, H, I.tok tk, rfl, q⟩
  · cases rx
    exact dic_noneNotIn I hd hk hh fun tk => ⟨.bl _, H, I.tok tk, rfl, q⟩
def rSetDic (K : PySem.W.Frag) (P : Program) (w : World) : TSet := fun o i v H Q => ∃ (d a : Addr) (k : List Int) (L : Ents), o = .ref d ∧ i = .ref a ∧ H d = some (DicO P w d L) ∧ KeysAt K H L ∧ SqT K H a (k.map V.int) ∧ k ∉ L.map (·.1) ∧ L.length < 1000 ∧
  Q (upd H d (DicO P w d (L ++ [(k, a, v)])))
theorem set_dic (hu : X.A.units + 1 < cLine) : PSet X (rSetDic X.K X.prog X.w) := by
  intro pins s σ H o i v ov iv u Q I ro ri rv h
  obtain ⟨d, a, k, L, rfl, rfl, hd, hk, ha, hn, hz, q⟩ := h
  cases ro
  cases ri
  exact dic_put hu I hd hk ha hn hz rv fun s' I' => ⟨_, I', q⟩
def rIxDic (K : PySem.W.Frag) (P : Program) (w : World) : R2 := fun x y H Q => ∃ (d a b : Addr) (k : List Int) (L : Ents) (v : V) (i : Nat), x = .ref d ∧ y = .ref a ∧ H d = some (DicO P w d L) ∧ KeysAt K H L ∧ SqT K H a (k.map V.int) ∧ L[i]? = some (k, b, v) ∧ Q v H
theorem ix_dic (hu : X.A.units + 1 < cLine) : IxR X (rIxDic X.K X.prog X.w) := by
  intro value slice pins s σ H x y v u Q I rx ry h hs
  obtain ⟨d, a, b, k, L, z, i, rfl, rfl, hd, hk, ha, hi, q⟩ := h
  cases rx
  cases ry
  obtain ⟨vs, r, lo, nd, hz, D⟩ := dic_of I hd hk
  obtain ⟨u, hu', ru⟩ := r.get i _ hi
  exact subscriptTail_builtinR (x := u) D.typeIs PySem.F.slot_dict_getitem.lookup (wpAny_getItem_heap (Q := fun r s' => r = u ∧ EP X pins σ Q r s') (tupleKind_room_in1 hu) (I.isT ha) D (atKey_of_get (by rw [r.keys]; exact nd) hu') ⟨rfl, z, H, I.tok _, ru, q⟩) hs
/-- {k: None} -/
def tDic1 (P : Program) (w : World) (K : PySem.W.Frag) (tk tv : TE) : TE := fun σ H Q => ∀ d, H d = none → tk σ (upd H d (DicO P w d [])) fun x H1 => tv σ H1 fun y H2 => ∃ (a : Addr) (k : List Int), x = .ref a ∧ SqT K H2 a (k.map V.int) ∧ H2 d = some (DicO P w d []) ∧
  Q (.ref d) (upd H2 d (DicO P w d [(k, a, y)]))
theorem dicO_empty {P : Program} {w : World} {H : Hp} (h : Heap) (hb : sysModules < h.objs.size) : ObjOk P w H (h.push { cls := .type "dict", data := .dict #[] }) h.objs.size (DicO P w h.objs.size []) :=
  dicO_new (vs := []) (es := #[]) (ep := 0) .nil (beq_eq_false_iff_ne.mpr (Nat.ne_of_gt hb)) List.nodup_nil (Nat.zero_le _) ⟨_, Heap.get?_push_size _ rfl, ⟨rfl, rfl, rfl⟩, rfl⟩ rfl
theorem pe_dic1 {k v : Expr} {tk tv : TE} {pos : Pos} (hu : X.A.units + 1 < cLine) (hk : PE X k tk) (hv : PE X v tv) : PE X (.Dict [some k] [v] pos) (tDic1 X.prog X.w X.K tk tv) := by
  refine ⟨fun pins s σ H Q I q => ?_⟩
  have hn := I.hok.fresh (Nat.le_refl s.heap.objs.size)
  have I1 := I.laid (a := s.heap.objs.size) (o := DicO X.prog X.w s.heap.objs.size []) (h' := s.heap.push { cls := .type "dict", data := .dict #[] }) (t' := s.toks) (fun _ _ q => Heap.get?_push_of_some _ q) (Nat.le_refl _) (dicO_empty s.heap I.big)
  have q1 := q _ hn
  refine wpAny_Dict_any rfl rfl (by simp) (by simp) (pairTrees_cons_walk (thn (hk.run pins _ σ _ _ I1 q1) fun u s1 ⟨x, H1, I2, rx, q2⟩ => thn (hv.run pins s1 σ H1 _ I2 q2) fun u2 s2 ⟨y, H2, I3, ry, a, kk, ex, ha, hd, q3⟩ => pairTrees_nil_walk ?_))
  subst ex
  obtain rfl : u = Value.ref a := rx
  obtain ⟨vs, r, lo, nd, hz, D⟩ := dic_of I3 hd (fun p hp => absurd hp List.not_mem_nil)
  cases r
  unfold storeAll
  rw [List.forIn_cons]
  refine wpAny_bind (wpAny_bind ?_)
  refine wpAny_dictSet_heap (hsz := Nat.zero_le _) (by show X.A.units < cLine; omega) (I3.isT ha) D fun h' D' hs => ?_
  rw [storedH_new (show atKey ([] : RawEnts) kk = none from rfl)] at D'
  obtain ⟨o', es', ep', ho', hx', hdt', he', his', hn'⟩ := D'
  have r' : EntR [(kk, a, y)] [(kk, a, u2)] := .cons ⟨rfl, rfl, ry⟩ .nil
  refine wpAny_pure ?_
  show wpAny _ _ (forIn [] _ _) _ _ _
  rw [List.forIn_nil]
  refine wpAny_pure ⟨.ref s.heap.objs.size, _, d_write I3 (by rw [hd]; exact True.intro) hs ⟨o', ho'⟩ (dicO_new r' lo hn' (by show 1 ≤ 1000; decide) ⟨o', ho', hx', hdt'⟩ he'), rfl, q3⟩
def rSortDic (K : PySem.W.Frag) (P : Program) (w : World) : List V → Hp → VK → Prop := fun vs H Q => ∃ (d : Addr) (L : Ents) (n : Nat) (B : Int), vs = [V.ref d] ∧ H d = some (DicO P w d L) ∧ KeysAt K H L ∧ L.length < 64 ∧ 1 ≤ n ∧ (∀ p ∈ L, p.1.length = n ∧ TS.Bd B p.1) ∧
  ∀ (ks' : Pairs) (p : Addr), ks'.Perm (L.map fun q => (q.2.1, q.1)) → (ks'.Pairwise fun p q => TS.code B p.2 ≤ TS.code B q.2) → H p = none → Q (.ref p) (upd H p (.lst (ks'.map xRef)))
/-- sorted(d) -/
theorem cr_sortDic (hc : X.calm = true) : CallR X (.builtin "sorted") (rSortDic X.K X.prog X.w) := by
  intro pins s σ H vs us Q I r h
  obtain ⟨d, L, n, B, rfl, hd, hk, h64, hn, hB, q⟩ := h
  rw [Vals.ref1 r]
  obtain ⟨raw, rr, lo, nd, hz, o, es, ep, ho, hx, hdt, he, his, hnd⟩ := dic_of I hd hk
  have hes : es.size = L.length := (size_of_entries he).trans rr.length
  have hkeys : ∀ (L : Ents) (raw : RawEnts), EntR L raw → raw.map (fun q => Value.ref q.2.1) = (L.map fun q => (q.2.1, q.1)).map vRef := fun L raw rr => by
    induction rr with
    | nil => rfl
    | cons h t ih => rw [List.map_cons, List.map_cons, List.map_cons, ih, h.2.1]
  have hall : ∀ p ∈ L.map (fun q => (q.2.1, q.1)), SqT X.K H p.1 (p.2.map V.int) ∧ p.2.length = n ∧ TS.Bd B p.2 := fun p hp => by
    obtain ⟨q, hq, rfl⟩ := List.mem_map.mp hp
    exact ⟨hk q hq, hB q hq⟩
  have hl64 : (L.map fun q => (q.2.1, q.1)).length < 64 := by rw [List.length_map]; exact h64
  refine sorted_run (vs := (L.map fun q => (q.2.1, q.1)).map vRef) (G := TupsOut B (L.map fun q => (q.2.1, q.1))) (by rw [List.length_map, sizeLine_eq]; omega) (fun hr => ?_)
    (fun h' tk _ _ k ho hr => sort_tups_run (d := n) ho hl64 hn (fun p hp => (tupI_raw I (hall p hp).1).keeps fun b o e _ => k b o e) (fun p hp => (hall p hp).2) hr)
    (fun h' h2 tk c out k k2 ho g => sort_end I hl64 q h' h2 tk c out k k2 ho g)
  refine PySem.W.kdu_collect (A := X.A.in1) (PySem.KdlSrc.rawDict (es := es) (ep := ep) lo) (I.ok.hd hc) ⟨o, ho, hx, hdt⟩ (by rw [hes, sizeLine_eq]; omega) fun h' tk acc hg hacc => ?_
  have ea : acc.toList = (L.map fun q => (q.2.1, q.1)).map vRef := by
    rw [← hkeys L raw rr]
    have hl : acc.toList.length = raw.length := by rw [Array.length_toList, hacc.1, size_of_entries he]
    refine List.ext_getElem? fun j => ?_
    rw [List.getElem?_map]
    cases hj : acc.toList[j]? with
    | none =>
      have := List.getElem?_eq_none_iff.mp hj
      rw [List.getElem?_eq_none (by omega)]; rfl
    | some v =>
      obtain ⟨hi, e⟩ := hacc.2 j v (by rw [← Array.getElem?_toList]; exact hj)
      have qe := entry_at he j
      rw [Array.getElem?_eq_getElem hi] at qe
      cases hb : raw[j]? with
      | none => rw [hb] at qe; cases qe
      | some b =>
        rw [hb] at qe
        have e2 : es[j] = entryOfKey (TK X.prog X.w) b := Option.some.inj qe
        rw [e, e2]; rfl
  rw [ea]
  exact hr h' tk hg
end
end Pe
end

section
set_option linter.all false
set_option maxRecDepth 100000
set_option maxHeartbeats 1000000
/-! are_places. -/
namespace Pd
open PySem PySem.Spec PyProof.Rows L2
/-- one more in the comprehension's list -/
theorem acc_ok {H1 H4 : Hp} {D : Addr} {ys : List V} {i : Nat} {y : V} {Nx : Hp → Prop} (hD : H1 D = none) (hd : H4 D = some (.lst (ys.take i))) (hy : ys[i]? = some y) (hi : i < 1000) (sm : Cf.Same H1 H4)
    (hN : ∀ H'', Cf.Same H1 H'' → H'' D = some (.lst (ys.take (i + 1))) → Nx H'') : ∃ acc, H4 D = some (.lst acc) ∧ acc.length < sizeLine ∧ Nx (upd H4 D (.lst (acc ++ [y]))) := by
  refine ⟨_, hd, Pf.small1000' (by rw [List.length_take]; omega), hN _ (fun b z e => ?_) ?_⟩
  · rw [upd_ne (ne_of_none e hD)]
    exact sm b z e
  · rw [upd_same, List.take_add_one, hy]; rfl
/-- a comprehension over a tuple -/
theorem lc_tupS {K : PySem.W.Frag} {H1 : Hp} {a : Addr} {xs ys : List V} {D : Addr} {fin : Hp → Prop} {step : (Hp → Prop) → V → Hp → Prop} (hD : H1 D = none) (ha : SqT K H1 a xs) (hys : ys.length = xs.length) (hfin : ∀ H, Cf.Same H1 H → H D = some (.lst ys) → fin H)
    (hstep : ∀ (i : Nat) (H : Hp) (x : V) (Nx : Hp → Prop), xs[i]? = some x → Cf.Same H1 H → H D = some (.lst (ys.take i)) → (∀ H'', Cf.Same H1 H'' → H'' D = some (.lst (ys.take (i + 1))) → Nx H'') → step Nx x H) :
    ∃ W : Nat → Nat → Hp → Prop, (∃ m, W 0 m (upd H1 D (.lst []))) ∧ ∀ (i m : Nat) (H : Hp), W i m H → ((Itt K a).stop i H ∧ fin H) ∨ ((Itt K a).go i H ∧ ∃ Nx : Hp → Prop, (∀ H', Nx H' → ∃ m', m' < m ∧ W (i + 1) m' H') ∧ ∀ (x : V) (H' : Hp), (Itt K a).yld i H x H' → step Nx x H') := by
  refine lc_same (n := xs.length) hD hys (fun H sm => ⟨xs, Cf_SqT sm ha, Nat.le_refl _⟩) (fun i H hi sm => ⟨xs, xs[i], Cf_SqT sm ha, List.getElem?_eq_getElem hi⟩) hfin fun i H x H' Nx hi sm hd hy hN => ?_
  obtain ⟨rfl, hx⟩ := hy
  exact hstep i H' x Nx (hx xs (Cf_SqT sm ha)) sm hd hN
def intV : V → Int
  | .int i => i
  | _ => 0
def IntBl (y : V) : Prop := (∃ i, y = .int i) ∨ ∃ b, y = .bl b
/-- sorted(ns) == list(range(len(ns))) -/
def permR (ns : List Int) : Bool := ns.isPerm (Pf.rangeI ns.length)
def maxI : List Int → Int
  | [] => 0
  | x :: t => t.foldl max x
def upOk (ns : List Int) : Bool := ((List.range ns.length).drop 1).all fun k => decide ((k : Int) ≤ maxI (ns.take k))
def arePlV (ys : List V) (most : Nat) : Bool := decide (2 ≤ ys.length) && decide (ys.length ≤ most) && ys.all isIntV && permR (ys.map intV) && upOk (ys.map intV)
theorem all_ints : ∀ {ys : List V}, ys.all isIntV = true → ys = (ys.map intV).map V.int
  | [], _ => rfl
  | y :: ys, h => by
    rw [List.all_cons, Bool.and_eq_true] at h
    rw [List.map_cons, List.map_cons, ← all_ints h.2]
    cases y <;> simp_all [isIntV, intV]
theorem foldl_max_mem : ∀ (t : List Int) (x : Int), t.foldl max x ∈ x :: t ∧ ∀ y ∈ x :: t, y ≤ t.foldl max x
  | [], x => ⟨List.mem_cons_self, fun y hy => by rw [List.mem_singleton.mp hy]; exact Int.le_refl _⟩
  | z :: t, x => by
    have ⟨h1, h2⟩ := foldl_max_mem t (max x z)
    rw [List.foldl_cons]
    refine ⟨?_, fun y hy => ?_⟩
    · rcases List.mem_cons.mp h1 with e | h1
      · rw [e]
        rcases Int.le_total x z with h | h
        · rw [Int.max_eq_right h]; exact List.mem_cons_of_mem _ List.mem_cons_self
        · rw [Int.max_eq_left h]; exact List.mem_cons_self
      · exact List.mem_cons_of_mem _ (List.mem_cons_of_mem _ h1)
    · have h0 := h2 (max x z) List.mem_cons_self
      rcases List.mem_cons.mp hy with e | hy
      · rw [e]; exact Int.le_trans (Int.le_max_left ..) h0
      · rcases List.mem_cons.mp hy with e | hy
        · rw [e]; exact Int.le_trans (Int.le_max_right ..) h0
        · exact h2 y (List.mem_cons_of_mem _ hy)
theorem maxI_eq {ns : List Int} {m : Int} (h0 : 0 < ns.length) (h1 : m ∈ ns) (h2 : ∀ j ∈ ns, j ≤ m) : m = maxI ns := by
  cases ns with
  | nil => exact absurd h0 (Nat.lt_irrefl _)
  | cons x t =>
    obtain ⟨a, b⟩ := foldl_max_mem t x
    exact Int.le_antisymm (b m h1) (h2 _ a)
theorem sorted_is {ns ns' : List Int} (hp : ns'.Perm ns) (hs : ns'.Pairwise (· ≤ ·)) : decide (ns' = Pf.rangeI ns.length) = permR ns := by
  unfold permR
  have hr : (Pf.rangeI ns.length).Pairwise (· ≤ ·) := by
    unfold Pf.rangeI
    rw [List.pairwise_map]
    exact List.pairwise_lt_range.imp fun h => by omega
  by_cases h : ns' = Pf.rangeI ns.length
  · rw [decide_eq_true h]
    exact (List.isPerm_iff.mpr (by rw [← h]; exact hp.symm)).symm
  · rw [decide_eq_false h]
    refine (Bool.eq_false_iff.mpr fun z => h ?_).symm
    have z2 := hp.trans (List.isPerm_iff.mp z)
    exact z2.eq_of_pairwise (le := (· ≤ ·)) (fun a b _ _ h1 h2 => Int.le_antisymm h1 h2) hs hr
section
variable {P : Program} {w : World} {K : PySem.W.Frag} {mg : Str → Option Value} {base : Heap}
abbrev sAP : Stmt := topS 31
abbrev NAP : List Str := ["value", "most", "one", "many"]
theorem scAP : FnScope NAP ["value", "most"] (defScope sAP) := ⟨rfl, rfl, rfl, by decide +kernel, rfl, by decide +kernel, by decide +kernel⟩
/-- no tuple -/
def NoTup (K : PySem.W.Frag) (H : Hp) (v : V) : Prop := ∃ t, TyX K H v t ∧ PySem.W.kitOne K t (.type "tuple") = some false
def spAP (K : PySem.W.Frag) : Sp := fun vs H Q _ => ∃ (v : V) (most : Nat), vs = [v, .int most] ∧ most ≤ 1000 ∧ ((NoTup K H v ∧ ∀ H', Cf.Same H H' → Q (.bl false) H') ∨
  ∃ (a : Addr) (ys : List V), v = .ref a ∧ Pe.FT H a ys ∧ (∀ y ∈ ys, IntBl y) ∧ ys.length < 64 ∧ ∀ H', Cf.Same H H' → Q (.bl (arePlV ys most)) H')
theorem ok_are_places (B : TB mg) (hIW : Cal P w K mg base 1 "is_whole" ["value"] spIW) (D : Dfn K mg "are_places" sAP ["value", "most"]) : Cal P w K mg base 2 "are_places" ["value", "most"] (spAP K) := by
  refine D.cal scAP (fun vs H Q E h => ?_) (fun f cdv A outer s H vs Q E hr h => ?_)
  · obtain ⟨v, m, rfl, _⟩ := h; rfl
  · obtain ⟨v, most, rfl, hm, h⟩ := h
    refine ⟨_, pss_cons (ps_if (PW.pt (pw_or (pt_not (pt_val (pe_callB call_isi (by rfl) B.isi (by decide +kernel) (pa_cons (pv 0) (pa_cons (pe_bltn (v := .ty "tuple") rfl B.tuple (by decide +kernel) rfl) pa_nil)))))
        (pw_or (pt_not (pt_chain op_le op_le pe_int (pe_callB call_len_seq (by rfl) B.len PySem.boot_len (pa_cons (pv 0) pa_nil)) (pv 1)))
          (pw_or1 (pt_not (pt_val (pe_callB (cr_all rfl) (by rfl) B.all (by decide +kernel) (pa_cons
            (pe_lc (own := [("one", 2)]) (g := gName 2) (tt := tYes) rfl scAP.nd (pi_tup (pv 0)) (blkOk_by (N := NAP) (sc := defScope sAP) (by decide +kernel)) (fun _ _ _ _ _ => pg_name (i := 2) scAP.nd rfl (Or.inl rfl)) (fun _ _ _ _ _ => pts_nil)
              (fun _ _ _ _ _ => pe_cal hIW hr (by decide) (by rfl) (pa_cons (pv 2) pa_nil))) pa_nil))))))))
        (pss_one (ps_ret pe_bl)) pss_nil)
      (pss_cons (ps_if (pt_cmpR (op_neD hr.units) (pe_callB Pe.cr_sortTI (by rfl) B.sorted (by decide +kernel) (pa_cons (pv 0) pa_nil))
          (pe_listRg rfl (by rfl) B.list (prg_1 (by rfl) B.range (pe_callB call_len_seq (by rfl) B.len PySem.boot_len (pa_cons (pv 0) pa_nil)))) (nomark _)) (pss_one (ps_ret pe_bl)) pss_nil)
      (pss_one (ps_ret (pe_callB (cr_all rfl) (by rfl) B.all (by decide +kernel) (pa_cons
        (pe_lc (own := [("many", 3)]) (g := gName 3) (tt := tYes) rfl scAP.nd (pi_range2 (by rfl) B.range (pa_cons pe_int (pa_cons (pe_callB call_len_seq (by rfl) B.len PySem.boot_len (pa_cons (pv 0) pa_nil)) pa_nil))) (blkOk_by (N := NAP) (sc := defScope sAP) (by decide +kernel))
          (fun _ _ _ _ _ => pg_name (i := 3) scAP.nd rfl (Or.inl rfl)) (fun _ _ _ _ _ => pts_nil)
          (fun _ _ _ _ _ => pe_cmpR op_ge (pe_callB (Pe.cr_maxTI rfl : CallR _ (.builtin "max") (Pe.rMaxTI K)) (by rfl) B.max (by decide +kernel) (pa_cons (pe_slice (sl_tup : SlR _ (rSlT K)) (pv 0) po_none (po_some (pv 3))) pa_nil)) (pv 3) (nomark _))) pa_nil))))), ?_⟩
    rcases h with ⟨⟨t, ty, hk⟩, q⟩ | ⟨a, ys, rfl, ha, hib, hlen, q⟩
    · exact ⟨v, rfl, v, .ty "tuple", t, .type "tuple", false, rfl, .ty "tuple", ty, hk, false, rfl, iteT (q H (Cf.Same.refl _))⟩
    have haT : SqT K H a ys := ha.sqT
    have hty : TyX K H (.ref a) (.type "tuple") := let ⟨o, e, _⟩ := ha; .fTuple e
    refine ⟨.ref a, rfl, .ref a, .ty "tuple", .type "tuple", .type "tuple", true, rfl, .ty "tuple", hty, kit_ty (by decide +kernel), true, rfl, iteF ?_⟩
    refine ⟨.ref a, rfl, a, ys, rfl, .inr haT, 2, (ys.length : Int), rfl, rfl, ?_⟩
    by_cases h2 : 2 ≤ ys.length
    case neg =>
      refine ⟨false, congrArg V.bl (decide_eq_false (by omega)), iteF ⟨false, rfl, iteT ?_⟩⟩
      have e : arePlV ys most = false := by unfold arePlV; rw [decide_eq_false h2]; rfl
      rw [e] at q
      exact q H (Cf.Same.refl _)
    refine ⟨true, congrArg V.bl (decide_eq_true (by omega)), iteT ?_⟩
    refine ⟨.int most, rfl, (ys.length : Int), (most : Int), rfl, rfl, ?_⟩
    by_cases h3 : ys.length ≤ most
    case neg =>
      refine ⟨false, congrArg V.bl (decide_eq_false (by omega)), iteT ?_⟩
      have e : arePlV ys most = false := by unfold arePlV; rw [decide_eq_false h3, Bool.and_false]; rfl
      rw [e] at q
      exact q H (Cf.Same.refl _)
    refine ⟨true, congrArg V.bl (decide_eq_true (by omega)), iteF ?_⟩
    refine ⟨.ref a, rfl, a, rfl, ⟨ys, haT⟩, fun D hD => ?_⟩
    refine lc_tupS (ys := (ys.map isIntV).map V.bl) hD haT (by rw [List.length_map, List.length_map]) (fun H' sm hl => ?_) (fun i H' x Nx hx sm hd hN => ?_)
    case refine_2 =>
      refine ⟨rfl, iteT (B := Nx H') ?_⟩
      refine ⟨x, rfl, x, rfl, hib x (List.mem_of_getElem? hx), ?_⟩
      exact acc_ok hD hd (by rw [List.getElem?_map, List.getElem?_map, hx]; rfl) (by have := (List.getElem?_eq_some_iff.mp hx).1; omega) sm hN
    refine ⟨D, ys.map isIntV, rfl, .inl (.inl hl), _, rfl, ?_⟩
    have hall : (ys.map isIntV).all id = ys.all isIntV := by rw [List.all_map]; rfl
    rw [hall]
    cases hai : ys.all isIntV with
    | false =>
      refine iteT ?_
      have e : arePlV ys most = false := by unfold arePlV; rw [hai, Bool.and_false]; rfl
      rw [e] at q
      exact q H' sm
    | true =>
      refine iteF ?_
      have ey := all_ints hai
      have haI : ∀ {H2 : Hp}, Cf.Same H' H2 → SqT K H2 a ((ys.map intV).map V.int) := fun sm2 => by rw [← ey]; exact Cf_SqT (sm.trans sm2) haT
      have hln : (ys.map intV).length = ys.length := List.length_map ..
      refine ⟨.ref a, rfl, a, ys.map intV, rfl, haI (Cf.Same.refl _), by rw [hln]; exact hlen, fun ns' p hp hs hnp => ?_⟩
      have s1 := sm.trans (Pf.same_upd (o := .lst (ns'.map V.int)) hnp)
      refine ⟨.ref a, rfl, a, ys, rfl, .inr (Cf_SqT s1 haT), (ys.length : Int), rfl, RgOk.of_le (by omega) (by omega) (by omega) (by omega), fun l hl2 => ?_⟩
      have s2 := s1.trans (Pf.same_upd (o := .lst (rgV 0 (ys.length : Int))) hl2)
      refine ⟨.list (Pe.intsD ns'), .list (Pe.intsD (Pf.rangeI ys.length)), Pe.dpListI (.inl (.inl (by exact Pf.same_upd hl2 _ _ upd_same))), Pe.dpListI (.inl (.inl (by rw [upd_same, Pf.rgV_range]))), Pe.listI_shaped _, Pe.listI_shaped _, _, rfl, ?_⟩
      have hsi := sorted_is hp hs
      rw [hln] at hsi
      rw [Pe.listI_eqv, hsi]
      cases hpm : permR (ys.map intV) with
      | false =>
        refine iteT ?_
        have e : arePlV ys most = false := by unfold arePlV; rw [hpm, Bool.and_false]; rfl
        rw [e] at q
        exact q _ s2
      | true =>
        refine iteF ?_
        refine ⟨.ref a, rfl, a, ys, rfl, .inr (Cf_SqT s2 haT), ?_⟩
        refine ⟨1, (ys.length : Int), rfl, ⟨by omega, by omega, by omega, by omega⟩, fun D2 hD2 => ?_⟩
        refine lc_same (n := ((ys.length : Int) - 1).toNat) (ys := (((List.range (ys.map intV).length).drop 1).map fun (k : Nat) => decide ((k : Int) ≤ maxI ((ys.map intV).take k))).map V.bl) hD2
          (by rw [List.length_map, List.length_map, List.length_drop, List.length_range, hln]; omega) (fun H2 sm2 => Nat.le_refl _) (fun i H2 hi sm2 => hi) (fun H2 sm2 hl3 => ?_) (fun i H2 x H3 Nx hi sm2 hd2 hy hN => ?_)
        · refine ⟨D2, _, rfl, .inl (.inl hl3), ?_⟩
          have e : arePlV ys most = upOk (ys.map intV) := by unfold arePlV; rw [hpm, hai, decide_eq_true h2, decide_eq_true h3]; rfl
          rw [e] at q
          rw [List.all_map]
          exact q H2 (s2.trans sm2)
        · obtain ⟨rfl, rfl⟩ := hy
          have hi2 : i + 1 < ys.length := by omega
          have n1 : (1 : Int) + (i : Nat) = ((i + 1 : Nat) : Int) := by omega
          have sm3 : Cf.Same H H3 := s2.trans sm2
          refine ⟨rfl, iteT (B := Nx H3) ?_⟩
          rw [n1]
          refine ⟨.ref a, rfl, .int ((i + 1 : Nat) : Int), rfl, ((i + 1 : Nat) : Int), rfl, a, ys, rfl, Cf_SqT sm3 haT, fun z => ?_, fun p2 np2 => ?_⟩
          · have := z.2
            rw [HT.sIx_nat] at this
            omega
          · have ecut : cutV ys none (some ((i + 1 : Nat) : Int)) = ((ys.map intV).take (i + 1)).map V.int := by
              rw [Pf.cut_take _ _ (by omega), List.map_take, ← ey]
            rw [ecut]
            refine ⟨p2, (ys.map intV).take (i + 1), rfl, .inl (.inl upd_same), by rw [List.length_take, hln]; omega, fun m hm1 hm2 => ?_⟩
            have em := maxI_eq (by rw [List.length_take, hln]; omega) hm1 hm2
            refine ⟨.int ((i + 1 : Nat) : Int), rfl, m, ((i + 1 : Nat) : Int), rfl, rfl, ?_⟩
            have s4 : Cf.Same _ (upd H3 p2 (.tup (((ys.map intV).take (i + 1)).map V.int))) := sm2.trans (Pf.same_upd np2)
            refine acc_ok hD2 (Pf.same_upd np2 _ _ hd2) ?_ (by omega) s4 hN
            rw [List.getElem?_map, List.getElem?_map, List.getElem?_drop, List.getElem?_range (by rw [hln]; omega), Nat.add_comm 1 i, em]
            rfl
end
end Pd
end

section
set_option linter.all false
set_option maxRecDepth 100000
set_option maxHeartbeats 1000000
/-! is_closed: what it computes. -/
namespace Pd
open PySem PySem.Spec PyProof.Rows L2
/-- an element of a value: an int, or a tuple of ints and bools -/
def ElAt (H : Hp) (v : V) : Option (List V) → Prop
  | none => ∃ i, v = .int i
  | some ys => ∃ a, v = .ref a ∧ Pe.FT H a ys ∧ (∀ y ∈ ys, IntBl y) ∧ ys.length < 64
abbrev Els := List (V × Option (List V))
def okEl (many : Nat) : Option (List V) → Bool
  | none => false
  | some ys => arePlV ys 7 && decide (ys.length = many)
def tupsOf (es : Els) : List (List Int) := es.map fun p => (p.2.getD []).map intV
def ascT (l : List (List Int)) : Bool := (l.zip (l.drop 1)).all fun p => HT.lexLt p.1 p.2
def stepOk (l : List (List Int)) : Bool := l.all fun p => decide (nextP false p ∈ l) && decide (nextP true p ∈ l)
def closedT (l : List (List Int)) : Bool := ascT l && stepOk l
def closedV (many : Nat) (es : Els) : Bool := decide (es ≠ []) && es.all (fun p => okEl many p.2) && closedT (tupsOf es)
theorem arePl_ix {ys : List V} {most : Nat} (h : arePlV ys most = true) : ixMax (ys.map intV) + 1 < (ys.map intV).length := by
  unfold arePlV at h
  simp only [Bool.and_eq_true, decide_eq_true_eq] at h
  obtain ⟨⟨⟨⟨h2, _⟩, _⟩, hp⟩, hu⟩ := h
  have hl : (ys.map intV).length = ys.length := List.length_map ..
  generalize hns : ys.map intV = ns at hp hu hl ⊢
  have hperm : ns.Perm (Pf.rangeI ns.length) := List.isPerm_iff.mp hp
  unfold upOk at hu
  have hk := List.all_eq_true.mp hu (ns.length - 1) (by
    rw [List.mem_iff_getElem?]
    refine ⟨ns.length - 2, ?_⟩
    rw [List.getElem?_drop, show 1 + (ns.length - 2) = ns.length - 1 by omega, List.getElem?_range (by omega)])
  have hle : ((ns.length - 1 : Nat) : Int) ≤ maxI (ns.take (ns.length - 1)) := of_decide_eq_true hk
  have hmem : maxI (ns.take (ns.length - 1)) ∈ ns.take (ns.length - 1) := by
    cases ht : ns.take (ns.length - 1) with
    | nil =>
      have := congrArg List.length ht
      rw [List.length_take] at this
      simp at this
      omega
    | cons x t => exact (foldl_max_mem t x).1
  have hin : maxI (ns.take (ns.length - 1)) ∈ ns := List.mem_of_mem_take hmem
  have hub : maxI (ns.take (ns.length - 1)) < (ns.length : Int) := by
    have := hperm.mem_iff.mp hin
    unfold Pf.rangeI at this
    obtain ⟨i, hi, e⟩ := List.mem_map.mp this
    have := List.mem_range.mp hi
    omega
  have he : maxI (ns.take (ns.length - 1)) = (ns.length : Int) - 1 := by omega
  rw [he] at hmem
  obtain ⟨j, hj, e⟩ := List.mem_iff_getElem.mp hmem
  have hj2 : j < ns.length - 1 := by rw [List.length_take] at hj; omega
  have hle2 : ixMax ns ≤ j := by
    unfold ixMax
    refine Nat.le_of_not_lt fun z => ?_
    have hne : (ns[j]'(by omega) == ((ns.length : Int) - 1)) = false := List.not_of_lt_findIdx (p := (· == ((ns.length : Int) - 1))) z
    rw [List.getElem_take] at e
    rw [e] at hne
    simp at hne
  omega
end Pd
end

section
set_option linter.all false
set_option maxRecDepth 100000
set_option maxHeartbeats 4000000
/-! is_closed. -/
namespace Pd
open PySem PySem.Spec PyProof.Rows L2
def KWalk (K : PySem.W.Frag) (aW : Addr) : Prop := ∀ H, SqT K H aW [.str (kindS false), .str (kindS true)]
theorem tyx_same {K : PySem.W.Frag} {H H' : Hp} {v : V} {t : Value} (sm : Cf.Same H H') (h : TyX K H v t) : TyX K H' v t := by
  cases h with
  | base b =>
    cases b with
    | non => exact .base .non
    | bl x => exact .base (.bl x)
    | int i => exact .base (.int i)
    | str x => exact .base (.str x)
    | flt x => exact .base (.flt x)
    | lst e => exact .base (.lst (sm _ _ e))
    | frz e => exact .base (.frz (sm _ _ e))
    | tup e => exact .base (.tup (sm _ _ e))
    | dK e => exact .base (.dK (sm _ _ e))
    | dT e => exact .base (.dT (sm _ _ e))
    | ins e cl ha hn htk hm => exact .base (.ins (sm _ _ e) cl ha hn htk hm)
  | byt b => exact .byt b
  | set e => exact .set (sm _ _ e)
  | kList e c => exact .kList e c
  | kTuple e c => exact .kTuple e c
  | kDict e c => exact .kDict e c
  | fTuple e => exact .fTuple (sm _ _ e)
  | fDict e => exact .fDict (sm _ _ e)
theorem FT_same {H H' : Hp} {a : Addr} {xs : List V} (sm : Cf.Same H H') (h : Pe.FT H a xs) : Pe.FT H' a xs := let ⟨o, e, d⟩ := h; ⟨o, sm _ _ e, d⟩
theorem ElAt_same {H H' : Hp} {v : V} {o : Option (List V)} (sm : Cf.Same H H') (h : ElAt H v o) : ElAt H' v o := by
  cases o with
  | none => exact h
  | some ys => obtain ⟨a, e, f, r⟩ := h; exact ⟨a, e, FT_same sm f, r⟩
/-- an element as data -/
theorem el_data {K : PySem.W.Frag} {H : Hp} : ∀ {v : V} {o : Option (List V)}, ElAt H v o → ∃ d, Dp K H v d ∧ d.canLay0 = true ∧ d.depth ≤ 2
  | v, none, ⟨i, e⟩ => ⟨.int i, by rw [e]; exact .int i, by simp [PyData.canLay0], by simp [PyData.depth]⟩
  | v, some ys, ⟨a, e, f, hib, _⟩ => by
    have key : ∀ ys : List V, (∀ y ∈ ys, IntBl y) → ∃ ds, DpAll K H ys ds ∧ PyData.canLayAll0 ds = true ∧ PyData.depthAll ds ≤ 1 := by
      intro ys
      induction ys with
      | nil => exact fun _ => ⟨[], .nil, by simp [PyData.canLayAll0], by simp [PyData.depthAll]⟩
      | cons y ys ih =>
        intro hh
        obtain ⟨ds, h1, h2, h3⟩ := ih fun z hz => hh z (List.mem_cons_of_mem _ hz)
        rcases hh y List.mem_cons_self with ⟨i, rfl⟩ | ⟨b, rfl⟩
        · exact ⟨.int i :: ds, .cons (.int i) h1, by simp [PyData.canLayAll0, PyData.canLay0, h2], by simp only [PyData.depthAll, PyData.depth]; omega⟩
        · exact ⟨.bool b :: ds, .cons (.bl b) h1, by simp [PyData.canLayAll0, PyData.canLay0, h2], by simp only [PyData.depthAll, PyData.depth]; omega⟩
    obtain ⟨ds, h1, h2, h3⟩ := key ys hib
    exact ⟨.tuple ds, by rw [e]; exact .tup f.sqT h1, by simp only [PyData.canLay0]; exact h2, by simp only [PyData.depth]; omega⟩
theorem els_data {K : PySem.W.Frag} {H : Hp} : ∀ {es : Els}, (∀ p ∈ es, ElAt H p.1 p.2) → ∃ ds, DpAll K H (es.map (·.1)) ds ∧ PyData.canLayAll0 ds = true ∧ PyData.depthAll ds ≤ 2 ∧ PyData.eqvAll ds [] = decide (es = [])
  | [], _ => ⟨[], .nil, by simp [PyData.canLayAll0], by simp [PyData.depthAll], by simp [PyData.eqvAll]⟩
  | p :: es, h => by
    obtain ⟨d, a1, a2, a3⟩ := el_data (K := K) (h p List.mem_cons_self)
    obtain ⟨ds, b1, b2, b3, _⟩ := els_data (K := K) (es := es) fun q hq => h q (List.mem_cons_of_mem _ hq)
    exact ⟨d :: ds, .cons a1 b1, by simp [PyData.canLayAll0, a2, b2], by simp only [PyData.depthAll]; omega, by simp [PyData.eqvAll]⟩
def adr : V → Addr
  | .ref a => a
  | _ => 0
def pairsOf (es : Els) : Pe.Pairs := es.map fun p => (adr p.1, (p.2.getD []).map intV)
theorem pairs_snd (es : Els) : (pairsOf es).map (·.2) = tupsOf es := by
  unfold pairsOf tupsOf
  rw [List.map_map]; rfl
structure GoodEl (H : Hp) (many : Nat) (q : Addr × List Int) : Prop where
  ft : Pe.FT H q.1 (q.2.map V.int)
  ix : ixMax q.2 + 1 < q.2.length
  len : q.2.length = many
theorem good_els {H : Hp} {many : Nat} {es : Els} (hel : ∀ p ∈ es, ElAt H p.1 p.2) (hok : es.all (fun p => okEl many p.2) = true) : es.map (·.1) = (pairsOf es).map Pe.xRef ∧ ∀ q ∈ pairsOf es, GoodEl H many q := by
  have one : ∀ p ∈ es, p.1 = .ref (adr p.1) ∧ GoodEl H many (adr p.1, (p.2.getD []).map intV) := fun p hp => by
    have h1 := hel p hp
    have h2 : okEl many p.2 = true := List.all_eq_true.mp hok p hp
    cases ho : p.2 with
    | none => rw [ho] at h2; cases h2
    | some ys =>
      rw [ho] at h1 h2
      obtain ⟨a, e, f, _, _⟩ := h1
      have h3 : (arePlV ys 7 && decide (ys.length = many)) = true := h2
      rw [Bool.and_eq_true] at h3
      have hall : ys.all isIntV = true := by
        have := h3.1
        unfold arePlV at this
        simp only [Bool.and_eq_true] at this
        exact this.1.1.2
      rw [e]
      refine ⟨rfl, ?_, arePl_ix h3.1, by show ((ys.map intV)).length = many; rw [List.length_map]; exact of_decide_eq_true h3.2⟩
      show Pe.FT H a ((ys.map intV).map V.int)
      rw [← all_ints hall]
      exact f
  refine ⟨?_, fun q hq => ?_⟩
  · unfold pairsOf
    rw [List.map_map]
    exact List.map_congr_left fun p hp => (one p hp).1
  · unfold pairsOf at hq
    obtain ⟨p, hp, rfl⟩ := List.mem_map.mp hq
    exact (one p hp).2
theorem two_get {α β : Type} (a b : α → β) : ∀ (l : List α) (i : Nat) (p : α), l[i]? = some p → (l.flatMap fun p => [a p, b p])[2 * i]? = some (a p) ∧ (l.flatMap fun p => [a p, b p])[2 * i + 1]? = some (b p)
  | [], i, p, h => by simp at h
  | x :: l, 0, p, h => by cases h; exact ⟨rfl, rfl⟩
  | x :: l, i + 1, p, h => by
    have := two_get a b l i p (by simpa using h)
    rw [List.flatMap_cons, show 2 * (i + 1) = 2 * i + 1 + 1 by omega, show 2 * i + 1 + 1 + 1 = (2 * i + 1) + 1 + 1 by omega]
    exact this
theorem two_len {α β : Type} (a b : α → β) : ∀ l : List α, (l.flatMap fun p => [a p, b p]).length = 2 * l.length
  | [] => rfl
  | x :: l => by
    rw [List.flatMap_cons, List.length_append, two_len a b l]
    simp only [List.length_cons, List.length_nil]
    omega
theorem two_all {α : Type} (a b : α → Bool) : ∀ l : List α, (l.flatMap fun p => [a p, b p]).all id = l.all fun p => a p && b p
  | [] => rfl
  | x :: l => by
    rw [List.flatMap_cons, List.all_append, two_all a b l, List.all_cons]
    show ((a x && (b x && true)) && _) = _
    rw [Bool.and_true, List.all_cons]
section
variable {P : Program} {w : World} {K : PySem.W.Frag} {mg : Str → Option Value} {base : Heap}
abbrev sIC : Stmt := topS 39
abbrev NIC : List Str := ["many", "value", "known", "one", "other", "kind"]
theorem scIC : FnScope NIC ["many", "value"] (defScope sIC) := ⟨rfl, rfl, rfl, by decide +kernel, rfl, by decide +kernel, by decide +kernel⟩
def spIC (K : PySem.W.Frag) : Sp := fun vs H Q _ => ∃ (v : V) (many : Nat), vs = [.int many, v] ∧ 2 ≤ many ∧ many ≤ 7 ∧ ((NoTup K H v ∧ ∀ H', Cf.Same H H' → Q (.bl false) H') ∨
  ∃ (a : Addr) (es : Els), v = .ref a ∧ SqT K H a (es.map (·.1)) ∧ (∀ p ∈ es, ElAt H p.1 p.2) ∧ es.length ≤ 76 ∧ ∀ H', Cf.Same H H' → Q (.bl (closedV many es)) H')
theorem ok_is_closed (B : TB mg) (hRC : Cal P w K mg base 3 "require_count" ["value", "least", "most"] Pf.spRC) (hAP : Cal P w K mg base 2 "are_places" ["value", "most"] (spAP K)) (hNX : Cal P w K mg base 1 "next_places" ["places", "kind"] spNX)
    (hM : ∃ t, mg "MAX_WALKED" = some (.int 7 t)) (hW : ∃ aW, mg "WALKED" = some (.ref aW) ∧ KWalk K aW) (D : Dfn K mg "is_closed" sIC ["many", "value"]) : Cal P w K mg base 4 "is_closed" ["many", "value"] (spIC K) := by
  obtain ⟨tM, hM⟩ := hM
  obtain ⟨aW, hW, kW⟩ := hW
  refine D.cal scIC (fun vs H Q E h => ?_) (fun f cdv A outer s H vs Q E hr h => ?_)
  · obtain ⟨v, m, rfl, _⟩ := h; rfl
  · obtain ⟨v, many, rfl, hm2, hm7, h⟩ := h
    refine ⟨_, pss_cons (ps_expr (pe_cal hRC hr (by decide) (by rfl) (pa_cons (pv 0) (pa_cons pe_int (pa_cons (pe_glob (v := .int 7) rfl hM ⟨_, rfl⟩) pa_nil)))))
      (pss_cons (ps_if (PW.pt (pw_or (pt_not (pt_val (pe_callB call_isi (by rfl) B.isi (by decide +kernel) (pa_cons (pv 1) (pa_cons (pe_bltn (v := .ty "tuple") rfl B.tuple (by decide +kernel) rfl) pa_nil)))))
          (pw_or1 (pt_cmpR (op_eqD hr.units) (pv 1) (pe_tup pa_nil) (nomark _))))) (pss_one (ps_ret pe_bl)) pss_nil)
      (pss_cons (ps_if (pt_not (pt_val (pe_callB (cr_all rfl) (by rfl) B.all (by decide +kernel) (pa_cons
          (pe_lc (own := [("one", 3)]) (g := gName 3) (tt := tYes) rfl scIC.nd (pi_tup (pv 1)) (blkOk_by (N := NIC) (sc := defScope sIC) (by decide +kernel)) (fun _ _ _ _ _ => pg_name (i := 3) scIC.nd rfl (Or.inl rfl)) (fun _ _ _ _ _ => pts_nil)
            (fun _ _ _ _ _ => pe_and (pe_cal hAP hr (by decide) (by rfl) (pa_cons (pv 3) (pa_cons (pe_glob (v := .int 7) rfl hM ⟨_, rfl⟩) pa_nil)))
              (pe_one (pe_cmpR op_eq (pe_callB (call_len_seq : CallR _ (.builtin "len") (fun xs H Q => ∃ p ys, xs = [.ref p] ∧ (SqL K H p ys ∨ SqT K H p ys) ∧ Q (.int ys.length) H)) (by rfl) B.len PySem.boot_len (pa_cons (pv 3) pa_nil)) (pv 0) (nomark _))))) pa_nil)))) (pss_one (ps_ret pe_bl)) pss_nil)
      (pss_cons (ps_if (pt_not (pt_val (pe_callB (cr_all rfl) (by rfl) B.all (by decide +kernel) (pa_cons
          (pe_lc (own := [("one", 3), ("other", 4)]) (g := gTup K 2 (gCons (gName 3) (gCons (gName 4) gNil))) (tt := tYes) rfl scIC.nd (RZ.pi_zipA (by rfl) B.zip (pa_cons (pv 1) (pa_cons (pe_slice sl_tup (pv 1) (po_some pe_int) po_none) pa_nil)))
            (blkOk_by (N := NIC) (sc := defScope sIC) (by decide +kernel)) (fun _ _ _ _ _ => pg_tup rfl (pgs_cons (pg_name (i := 3) scIC.nd rfl (Or.inl rfl)) (pgs_cons (pg_name (i := 4) scIC.nd rfl (Or.inl rfl)) pgs_nil))) (fun _ _ _ _ _ => pts_nil)
            (fun _ _ _ _ _ => pe_cmpR (op_ltT hr.units0 : OpR _ (compareOp .Lt) (rLtT K)) (pv 3) (pv 4) (nomark _))) pa_nil)))) (pss_one (ps_ret pe_bl)) pss_nil)
      (pss_cons (ps_set (i := 2) scIC.nd rfl (.inr rfl) (pe_callTy (Pe.cr_setTT rfl hr.units) (by rfl) B.set (by decide +kernel) (pa_cons (pv 1) pa_nil)))
      (pss_one (ps_ret (pe_callB (cr_all rfl) (by rfl) B.all (by decide +kernel) (pa_cons
          (pe_lc2 (own := [("one", 3), ("kind", 5)]) (vs1 := [5]) (g := gName 3) (g1 := gName 5) (tt := tYes) (tt1 := tYes) (wi1 := iTup K (tC (.ref aW))) rfl scIC.nd (pi_tup (pv 1)) (blkOk_by (N := NIC) (sc := defScope sIC) (by decide +kernel)) (by decide)
            (fun _ _ _ _ _ => pg_name (i := 3) scIC.nd rfl (Or.inl rfl)) (fun _ _ _ _ _ => pts_nil) (fun _ _ _ _ _ => pi_tup (pe_glob (v := .ref aW) rfl hW rfl)) (fun _ _ _ _ _ => pg_name (i := 5) scIC.nd rfl (Or.inl rfl)) (fun _ _ _ _ _ => pts_nil)
            (fun _ _ _ _ _ => pe_cmpR (Pe.op_inBag hr.units : OpR _ (compareOp .In) (Pe.rInBag K P w)) (pe_cal hNX hr (by decide) (by rfl) (pa_cons (pv 3) (pa_cons (pv 5) pa_nil))) (pv 2) rfl)) pa_nil)))))))), ?_⟩
    refine ⟨.int many, rfl, many, 2, 7, rfl, by omega, by omega, by omega, by omega, fun H0 s0 => ?_⟩
    rcases h with ⟨⟨t, ty, hk⟩, q⟩ | ⟨a, es, rfl, ha, hel, hlen, q⟩
    · exact ⟨v, rfl, v, .ty "tuple", t, .type "tuple", false, rfl, .ty "tuple", tyx_same s0 ty, hk, false, rfl, iteT (q H0 s0)⟩
    have haT : ∀ {H' : Hp}, Cf.Same H H' → SqT K H' a (es.map (·.1)) := fun sm => Cf_SqT sm ha
    have hty : TyX K H0 (.ref a) (.type "tuple") := by
      rcases haT s0 with (e | ⟨o, e⟩) | ⟨o, its, n, e1, e2, _⟩
      · exact .base (.tup e)
      · exact .fTuple e
      · exact .kTuple e1 e2
    refine ⟨.ref a, rfl, .ref a, .ty "tuple", .type "tuple", .type "tuple", true, rfl, .ty "tuple", hty, kit_ty (by decide +kernel), true, rfl, iteF ?_⟩
    refine ⟨.ref a, rfl, by show 0 ≤ sizeLine; decide, fun T nT => ?_⟩
    have s1 := s0.trans (Pf.same_upd (o := .tup []) nT)
    obtain ⟨ds, hds, hsh, hnil⟩ : ∃ ds, DpAll K (upd H0 T (.tup [])) (es.map (·.1)) ds ∧ SeqAt.shaped (.tuple ds) = true ∧ PyData.eqv (.tuple ds) (.tuple []) = decide (es = []) := by
      obtain ⟨ds, h1, h2, h3, h4⟩ := els_data (K := K) (H := upd H0 T (.tup [])) fun p hp => ElAt_same s1 (hel p hp)
      exact ⟨ds, h1, Pe.shaped_of (by simp only [PyData.canLay0]; exact h2) (by simp only [PyData.depth]; omega), by simp only [PyData.eqv]; exact h4⟩
    refine ⟨.tuple ds, .tuple [], .tup (haT s1) hds, .tup (.inl (.inl upd_same)) .nil, hsh, by decide, _, rfl, ?_⟩
    rw [hnil]
    by_cases hes : es = []
    · rw [decide_eq_true hes]
      refine iteT ?_
      have e : closedV many es = false := by unfold closedV; rw [hes]; rfl
      rw [e] at q
      exact q _ s1
    rw [decide_eq_false hes]
    refine iteF ?_
    refine ⟨.ref a, rfl, a, rfl, ⟨_, haT s1⟩, fun D hD => ?_⟩
    refine lc_tupS (ys := (es.map fun p => okEl many p.2).map V.bl) hD (haT s1) (by rw [List.length_map, List.length_map, List.length_map]) (fun H1 sm hl => ?_) (fun i H1 x Nx hx sm hd hN => ?_)
    case refine_2 =>
      rw [List.getElem?_map] at hx
      obtain ⟨p, hp, rfl⟩ := Option.map_eq_some_iff.mp hx
      have hi := (List.getElem?_eq_some_iff.mp hp).1
      have hpel := ElAt_same (s1.trans sm) (hel p (List.mem_of_getElem? hp))
      refine ⟨rfl, iteT (B := Nx H1) ?_⟩
      have fin : ∀ (b : Bool) (H2 : Hp), Cf.Same H1 H2 → okEl many p.2 = b → ∃ acc, H2 D = some (.lst acc) ∧ acc.length < sizeLine ∧ Nx (upd H2 D (.lst (acc ++ [.bl b]))) := fun b H2 sm2 e =>
        acc_ok hD (sm2 _ _ hd) (by rw [List.getElem?_map, List.getElem?_map, hp, ← e]; rfl) (by omega) (sm.trans sm2) hN
      cases ho : p.2 with
      | none =>
        rw [ho] at hpel fin
        obtain ⟨i, ei⟩ := hpel
        refine ⟨p.1, rfl, p.1, 7, rfl, by decide, .inl ⟨⟨.type "int", by rw [ei]; exact .base (.int i), kit_ty (by decide +kernel)⟩, fun H2 sm2 => ?_⟩⟩
        exact ⟨false, rfl, iteF (fin false H2 sm2 rfl)⟩
      | some ys =>
        rw [ho] at hpel fin
        obtain ⟨b, eb, fb, hib, hl64⟩ := hpel
        refine ⟨p.1, rfl, p.1, 7, rfl, by decide, .inr ⟨b, ys, eb, fb, hib, hl64, fun H2 sm2 => ?_⟩⟩
        cases hap : arePlV ys 7 with
        | false => exact ⟨false, rfl, iteF (fin false H2 sm2 (by show (arePlV ys 7 && _) = false; rw [hap]; rfl))⟩
        | true =>
          refine ⟨true, rfl, iteT ?_⟩
          refine ⟨p.1, rfl, b, ys, by rw [eb], .inr (FT_same sm2 fb).sqT, .int many, rfl, rfl, ?_⟩
          have e : decide (V.int (ys.length : Int) = V.int (many : Int)) = decide (ys.length = many) := by
            by_cases z : ys.length = many
            · rw [z, decide_eq_true rfl, decide_eq_true rfl]
            · rw [decide_eq_false z, decide_eq_false fun y => z (by have := V.int.inj y; omega)]
          rw [e]
          exact fin _ H2 sm2 (by show (arePlV ys 7 && _) = _; rw [hap]; rfl)
    refine ⟨D, es.map fun p => okEl many p.2, rfl, .inl (.inl hl), _, rfl, ?_⟩
    have hae : (es.map fun p => okEl many p.2).all id = es.all fun p => okEl many p.2 := by rw [List.all_map]; rfl
    rw [hae]
    have s2 := s1.trans sm
    cases hok : es.all fun p => okEl many p.2 with
    | false =>
      refine iteT ?_
      have e : closedV many es = false := by unfold closedV; rw [hok, Bool.and_false]; rfl
      rw [e] at q
      exact q _ s2
    | true =>
      refine iteF ?_
      have hcl : closedV many es = closedT (tupsOf es) := by unfold closedV; rw [hok, decide_eq_true hes]; rfl
      rw [hcl] at q
      obtain ⟨hxr, hgood⟩ := good_els hel hok
      have hln : (pairsOf es).length = es.length := List.length_map ..
      have haP : ∀ {H' : Hp}, Cf.Same H H' → SqT K H' a ((pairsOf es).map Pe.xRef) := fun sm => by rw [← hxr]; exact haT sm
      have hes1 : 0 < es.length := List.length_pos_iff.mpr hes
      refine ⟨.ref a, rfl, .ref a, rfl, 1, rfl, a, _, rfl, haP s2, fun z => ?_, fun p np => ?_⟩
      · have := z.1
        rw [show (1 : Int) = ((1 : Nat) : Int) from rfl, HT.sIx_nat, List.length_map, hln] at this
        omega
      have s3 := s2.trans (Pf.same_upd (o := .tup (cutV ((pairsOf es).map Pe.xRef) (some 1) none)) np)
      have ecut : cutV ((pairsOf es).map Pe.xRef) (some 1) none = ((pairsOf es).drop 1).map Pe.xRef := by
        have := Pf.cut_drop ((pairsOf es).map Pe.xRef) 1 (by rw [List.length_map, hln]; omega)
        rw [show ((1 : Nat) : Int) = 1 from rfl] at this
        rw [this, List.map_drop]
      rw [ecut] at s3 ⊢
      refine ⟨a, p, _, _, rfl, .inr ⟨haP s3, .inl (.inl upd_same), fun D2 hD2 => ?_⟩⟩
      have hall64 : ∀ q ∈ pairsOf es, ∀ {H' : Hp}, Cf.Same H H' → SqT K H' q.1 (q.2.map V.int) := fun q hq H' sm => Cf_SqT sm (hgood q hq).ft.sqT
      have h1 : ((tupsOf es).zip ((tupsOf es).drop 1)).length = es.length - 1 := by
        rw [List.length_zip, List.length_drop]
        have : (tupsOf es).length = es.length := List.length_map ..
        omega
      refine lc_same (n := es.length - 1) (ys := (((tupsOf es).zip ((tupsOf es).drop 1)).map fun p => HT.lexLt p.1 p.2).map V.bl) hD2 (by rw [List.length_map, List.length_map, h1])
        (fun H2 sm2 => ⟨_, _, haP (s3.trans sm2), Cf_SqT sm2 (.inl (.inl upd_same)), .inr (by rw [List.length_map, List.length_drop, hln]; exact Nat.le_refl _)⟩)
        (fun i H2 hi sm2 => ⟨_, _, Pe.xRef (pairsOf es)[i], Pe.xRef (pairsOf es)[i + 1], haP (s3.trans sm2), Cf_SqT sm2 (.inl (.inl upd_same)), by rw [List.getElem?_map, List.getElem?_eq_getElem (by omega)]; rfl, by rw [List.getElem?_map, List.getElem?_drop, Nat.add_comm 1 i, List.getElem?_eq_getElem (by omega)]; rfl⟩)
        (fun H2 sm2 hl2 => ?_) (fun i H2 x H3 Nx hi sm2 hd2 hy hN => ?_)
      case refine_2 =>
        obtain ⟨T2, x1, y1, rfl, nT2, rfl, hx1, hy1⟩ := hy
        have ex : x1 = Pe.xRef (pairsOf es)[i] := by
          have := hx1 _ (haP (s3.trans sm2))
          rw [List.getElem?_map, List.getElem?_eq_getElem (by omega)] at this
          exact (Option.some.inj this).symm
        have ey : y1 = Pe.xRef (pairsOf es)[i + 1] := by
          have := hy1 _ (Cf_SqT sm2 (.inl (.inl upd_same)))
          rw [List.getElem?_map, List.getElem?_drop, Nat.add_comm 1 i, List.getElem?_eq_getElem (by omega)] at this
          exact (Option.some.inj this).symm
        subst ex ey
        have sT := sm2.trans (Pf.same_upd (o := .tup [Pe.xRef (pairsOf es)[i], Pe.xRef (pairsOf es)[i + 1]]) nT2)
        refine ⟨T2, _, rfl, .inl (.inl upd_same), rfl, _, [_], rfl, _, [], rfl, rfl, ?_⟩
        refine ⟨rfl, iteT (B := Nx (upd H2 T2 (.tup [Pe.xRef (pairsOf es)[i], Pe.xRef (pairsOf es)[i + 1]]))) ?_⟩
        refine ⟨_, rfl, _, rfl, (pairsOf es)[i].1, (pairsOf es)[i + 1].1, (pairsOf es)[i].2, (pairsOf es)[i + 1].2, rfl, rfl, hall64 _ (List.getElem_mem _) (s3.trans sT), hall64 _ (List.getElem_mem _) (s3.trans sT), ?_⟩
        refine acc_ok hD2 (Pf.same_upd nT2 _ _ hd2) ?_ (by omega) sT hN
        rw [List.getElem?_map, List.getElem?_map, ← pairs_snd]
        have hz : (((pairsOf es).map (·.2)).zip (((pairsOf es).map (·.2)).drop 1))[i]? = some ((pairsOf es)[i].2, (pairsOf es)[i + 1].2) := by
          rw [List.getElem?_zip_eq_some]
          exact ⟨by rw [List.getElem?_map, List.getElem?_eq_getElem (by omega)]; rfl, by rw [List.getElem?_drop, List.getElem?_map, Nat.add_comm 1 i, List.getElem?_eq_getElem (by omega)]; rfl⟩
        rw [hz]; rfl
      have s4 := s3.trans sm2
      refine ⟨D2, _, rfl, .inl (.inl hl2), _, rfl, ?_⟩
      have hab : (((tupsOf es).zip ((tupsOf es).drop 1)).map fun p => HT.lexLt p.1 p.2).all id = ascT (tupsOf es) := by rw [List.all_map]; rfl
      rw [hab]
      cases hasc : ascT (tupsOf es) with
      | false =>
        refine iteT ?_
        have e : closedT (tupsOf es) = false := by unfold closedT; rw [hasc]; rfl
        rw [e] at q
        exact q _ s4
      | true =>
        refine iteF ?_
        have hct : closedT (tupsOf es) = stepOk (tupsOf es) := by unfold closedT; rw [hasc]; rfl
        rw [hct] at q
        refine ⟨.ref a, rfl, a, pairsOf es, tupsOf es, rfl, haP s4, fun p hp => hall64 p hp s4, fun p hp => by rw [← pairs_snd]; exact List.mem_map.mpr ⟨p, hp, rfl⟩, by show (es.map _).length ≤ 76; rw [List.length_map]; exact hlen, fun g L ng hsub hcov hnd => ?_⟩
        have s5 := s4.trans (Pf.same_upd (o := Pe.BagO P w g L) ng)
        have hmem : ∀ k : List Int, decide (k ∈ L.map (·.2)) = decide (k ∈ tupsOf es) := fun k => by
          refine decide_eq_decide.mpr ⟨fun hk => ?_, fun hk => ?_⟩
          · obtain ⟨p, hp, rfl⟩ := List.mem_map.mp hk
            rw [← pairs_snd]
            exact List.mem_map.mpr ⟨p, hsub p hp, rfl⟩
          · rw [← pairs_snd] at hk
            obtain ⟨p, hp, rfl⟩ := List.mem_map.mp hk
            exact hcov p hp
        have hTA : ∀ {H' : Hp}, Cf.Same H H' → Pe.TupsAt K H' L := fun sm p hp => hall64 p (hsub p hp) sm
        refine ⟨.ref a, rfl, a, rfl, ⟨_, haP s5⟩, fun D3 hD3 => ?_⟩
        have hbl : (((tupsOf es).flatMap fun p => [decide (nextP false p ∈ tupsOf es), decide (nextP true p ∈ tupsOf es)]).map V.bl).length = 2 * es.length := by
          rw [List.length_map, two_len]
          have : (tupsOf es).length = es.length := List.length_map ..
          omega
        have hball : ((tupsOf es).flatMap fun p => [decide (nextP false p ∈ tupsOf es), decide (nextP true p ∈ tupsOf es)]).all id = stepOk (tupsOf es) := two_all _ _ _
        generalize hB : ((tupsOf es).flatMap fun p => [decide (nextP false p ∈ tupsOf es), decide (nextP true p ∈ tupsOf es)]) = bs at hbl hball
        have hbget : ∀ i (hi : i < es.length), bs[2 * i]? = some (decide (nextP false ((pairsOf es)[i]'(by omega)).2 ∈ tupsOf es)) ∧ bs[2 * i + 1]? = some (decide (nextP true ((pairsOf es)[i]'(by omega)).2 ∈ tupsOf es)) := fun i hi => by
          rw [← hB]
          exact two_get _ _ _ i _ (by rw [← pairs_snd, List.getElem?_map, List.getElem?_eq_getElem (by omega)]; rfl)
        let H5 : Hp := upd H2 g (Pe.BagO P w g L)
        have hg5 : H5 g = some (Pe.BagO P w g L) := upd_same
        have s5 : Cf.Same H H5 := s5
        have hD3 : H5 D3 = none := hD3
        refine ⟨fun i m H' => i + m = es.length ∧ Cf.Same H5 H' ∧ H' D3 = some (.lst ((bs.map V.bl).take (2 * i))), ⟨es.length, Nat.zero_add _, Pf.same_upd hD3, by rw [upd_same]; rfl⟩, fun i m H' ⟨e1, sm5, hd5⟩ => ?_⟩
        by_cases hi : i < es.length
        case neg =>
          have ei : i = es.length := by omega
          subst ei
          refine .inl ⟨⟨_, haP (s5.trans sm5), by rw [List.length_map, hln]; exact Nat.le_refl _⟩, D3, bs, rfl, .inl (.inl ?_), ?_⟩
          · rw [hd5, List.take_of_length_le (by rw [hbl]; exact Nat.le_refl _)]
          · rw [hball]
            exact q _ (s5.trans sm5)
        refine .inr ⟨⟨_, Pe.xRef (pairsOf es)[i], haP (s5.trans sm5), by rw [List.getElem?_map, List.getElem?_eq_getElem (by omega)]; rfl⟩, fun H'' => Cf.Same H5 H'' ∧ H'' D3 = some (.lst ((bs.map V.bl).take (2 * (i + 1)))), fun H'' hh => ⟨m - 1, by omega, by omega, hh.1, hh.2⟩, fun x H'' hy => ?_⟩
        obtain ⟨rfl, hx⟩ := hy
        have ex : x = Pe.xRef (pairsOf es)[i] := by
          have := hx _ (haP (s5.trans sm5))
          rw [List.getElem?_map, List.getElem?_eq_getElem (by omega)] at this
          exact (Option.some.inj this).symm
        subst ex
        refine ⟨rfl, ?_⟩
        refine iteT (B := Cf.Same H5 H'' ∧ H'' D3 = some (.lst ((bs.map V.bl).take (2 * (i + 1))))) ?_
        refine ⟨aW, rfl, ⟨_, kW _⟩, fun j k H6 => j + k = 2 ∧ Cf.Same H5 H6 ∧ H6 D3 = some (.lst ((bs.map V.bl).take (2 * i + j))), ⟨2, rfl, sm5, hd5⟩, fun j k H6 ⟨e2, sm6, hd6⟩ => ?_⟩
        by_cases hj : j < 2
        case neg =>
          have ej : j = 2 := by omega
          subst ej
          exact .inl ⟨⟨_, kW _, Nat.le_refl _⟩, sm6, by rw [hd6, show 2 * i + 2 = 2 * (i + 1) by omega]⟩
        refine .inr ⟨⟨_, .str (kindS (decide (j = 1))), kW _, ?_⟩, fun H7 => Cf.Same H5 H7 ∧ H7 D3 = some (.lst ((bs.map V.bl).take (2 * i + (j + 1)))), fun H7 hh => ⟨k - 1, by omega, by omega, hh.1, hh.2⟩, fun x H7 hy => ?_⟩
        · match j, hj with
          | 0, _ => rfl
          | 1, _ => rfl
        obtain ⟨rfl, hx2⟩ := hy
        have ex : x = .str (kindS (decide (j = 1))) := by
          have := hx2 _ (kW _)
          match j, hj with
          | 0, _ => exact (Option.some.inj this).symm
          | 1, _ => exact (Option.some.inj this).symm
        subst ex
        have hil : i < (pairsOf es).length := by omega
        have hgd := hgood _ (List.getElem_mem hil)
        refine ⟨rfl, iteT (B := Cf.Same H5 H7 ∧ H7 D3 = some (.lst ((bs.map V.bl).take (2 * i + (j + 1))))) ?_⟩
        refine ⟨_, rfl, _, rfl, (pairsOf es)[i].1, (pairsOf es)[i].2, decide (j = 1), rfl, FT_same (s5.trans sm6) hgd.ft, by rw [hgd.len]; omega, hgd.ix, fun H8 t sm8 nt8 ft8 => ?_⟩
        refine ⟨.ref g, rfl, t, g, nextP (decide (j = 1)) (pairsOf es)[i].2, L, rfl, rfl, ft8.sqT, sm8 _ _ (sm6 _ _ hg5), hTA (s5.trans (sm6.trans sm8)), ?_⟩
        rw [hmem]
        refine ⟨_, sm8 _ _ hd6, Pf.small1000' (by rw [List.length_take]; omega), fun b z e => ?_, ?_⟩
        · rw [upd_ne (ne_of_none e hD3)]
          exact sm8 _ _ (sm6 b z e)
        · have hbj : bs[2 * i + j]? = some (decide (nextP (decide (j = 1)) (pairsOf es)[i].2 ∈ tupsOf es)) := by
            obtain ⟨b1, b2⟩ := hbget i hi
            rcases (show j = 0 ∨ j = 1 by omega) with ej | ej
            · subst ej
              rw [show decide ((0 : Nat) = 1) = false from rfl, Nat.add_zero]
              exact b1
            · subst ej
              rw [show decide ((1 : Nat) = 1) = true from rfl]
              exact b2
          rw [upd_same, show 2 * i + (j + 1) = (2 * i + j) + 1 by omega, List.take_add_one, List.getElem?_map, hbj]
          simp only [Option.map_some, Option.toList_some]
end
end Pd
end

section
set_option linter.all false
set_option maxRecDepth 100000
set_option maxHeartbeats 1000000
/-! the walk by layers, as plain lists. -/
namespace Pd
abbrev BS := List (List Int) × List (List Int)
def visit (low : Bool) (p : List Int) (s : BS) : BS := if nextP low p ∈ s.1 then s else (s.1 ++ [nextP low p], s.2 ++ [nextP low p])
def visit2 (p : List Int) (s : BS) : BS := visit true p (visit false p s)
def layerF (ps : List (List Int)) (s : BS) : BS := ps.foldl (fun s p => visit2 p s) s
def turnB (s : BS) : BS := layerF s.2 (s.1, [])
def bfs (p : List Int) : Nat → BS
  | 0 => ([p], [p])
  | j + 1 => turnB (bfs p j)
inductive Reach (p : List Int) : List Int → Prop
  | self : Reach p p
  | step {q : List Int} (low : Bool) : Reach p q → Reach p (nextP low q)
theorem layerF_take (ps : List (List Int)) (s : BS) {i : Nat} {p : List Int} (h : ps[i]? = some p) : layerF (ps.take (i + 1)) s = visit2 p (layerF (ps.take i) s) := by
  unfold layerF
  rw [List.take_add_one, h, List.foldl_append]; rfl
/-- what a visit keeps -/
structure Grew (a b : BS) : Prop where
  sub : ∀ q ∈ a.1, q ∈ b.1
  lsub : ∀ q ∈ a.2, q ∈ b.2
  len : a.1.length + b.2.length = b.1.length + a.2.length
theorem Grew.refl (a : BS) : Grew a a := ⟨fun _ h => h, fun _ h => h, rfl⟩
theorem Grew.trans {a b c : BS} (h : Grew a b) (k : Grew b c) : Grew a c := ⟨fun q x => k.sub q (h.sub q x), fun q x => k.lsub q (h.lsub q x), by have := h.len; have := k.len; omega⟩
theorem visit_grew (low : Bool) (p : List Int) (s : BS) : Grew s (visit low p s) := by
  unfold visit
  by_cases h : nextP low p ∈ s.1
  · rw [if_pos h]; exact Grew.refl s
  · rw [if_neg h]
    exact ⟨fun q x => List.mem_append_left _ x, fun q x => List.mem_append_left _ x, by simp only [List.length_append, List.length_cons, List.length_nil]; omega⟩
theorem visit_has (low : Bool) (p : List Int) (s : BS) : nextP low p ∈ (visit low p s).1 := by
  unfold visit
  by_cases h : nextP low p ∈ s.1
  · rw [if_pos h]; exact h
  · rw [if_neg h]; exact List.mem_append_right _ (List.mem_singleton.mpr rfl)
theorem visit2_grew (p : List Int) (s : BS) : Grew s (visit2 p s) := (visit_grew _ p s).trans (visit_grew _ p _)
theorem visit2_has (p : List Int) (s : BS) (low : Bool) : nextP low p ∈ (visit2 p s).1 := by
  cases low with
  | true => exact visit_has true p _
  | false => exact (visit_grew true p _).sub _ (visit_has false p s)
theorem layerF_grew : ∀ (ps : List (List Int)) (s : BS), Grew s (layerF ps s)
  | [], s => Grew.refl s
  | p :: ps, s => (visit2_grew p s).trans (layerF_grew ps (visit2 p s))
theorem layerF_has : ∀ (ps : List (List Int)) (s : BS) (p : List Int), p ∈ ps → ∀ low, nextP low p ∈ (layerF ps s).1
  | [], s, p, h, _ => absurd h List.not_mem_nil
  | x :: ps, s, p, h, low => by
    rcases List.mem_cons.mp h with e | h
    · rw [e]
      exact (layerF_grew ps (visit2 x s)).sub _ (visit2_has x s low)
    · exact layerF_has ps (visit2 x s) p h low
/-- an invariant of the state -/
theorem layerF_inv (I : BS → Prop) (O : List Int → Prop) (hv : ∀ low p s, O p → I s → I (visit low p s)) : ∀ (ps : List (List Int)) (s : BS), (∀ p ∈ ps, O p) → I s → I (layerF ps s)
  | [], s, _, h => h
  | p :: ps, s, ho, h => layerF_inv I O hv ps (visit2 p s) (fun q hq => ho q (List.mem_cons_of_mem _ hq)) (hv _ _ _ (ho p List.mem_cons_self) (hv _ _ _ (ho p List.mem_cons_self) h))
theorem mem_visit {low : Bool} {p : List Int} {s : BS} {q : List Int} (h : q ∈ (visit low p s).1) : q ∈ s.1 ∨ q = nextP low p := by
  unfold visit at h
  by_cases c : nextP low p ∈ s.1
  · rw [if_pos c] at h; exact .inl h
  · rw [if_neg c] at h
    rcases List.mem_append.mp h with z | z
    · exact .inl z
    · exact .inr (List.mem_singleton.mp z)
theorem mem_visit2 {low : Bool} {p : List Int} {s : BS} {q : List Int} (h : q ∈ (visit low p s).2) : q ∈ s.2 ∨ (q = nextP low p ∧ q ∈ (visit low p s).1) := by
  have hh := visit_has low p s
  unfold visit at h hh ⊢
  by_cases c : nextP low p ∈ s.1
  · rw [if_pos c] at h; exact .inl h
  · rw [if_neg c] at h hh ⊢
    rcases List.mem_append.mp h with z | z
    · exact .inl z
    · have := List.mem_singleton.mp z
      exact .inr ⟨this, by rw [this]; exact hh⟩
theorem visit_nodup {low : Bool} {p : List Int} {s : BS} (h : s.1.Nodup) : (visit low p s).1.Nodup := by
  unfold visit
  by_cases c : nextP low p ∈ s.1
  · rw [if_pos c]; exact h
  · rw [if_neg c]
    exact List.nodup_append.mpr ⟨h, List.pairwise_singleton _ _, fun x hx y hy z => c (by rw [← List.mem_singleton.mp hy, ← z]; exact hx)⟩
/-- what holds of each state -/
structure BOk (p0 : List Int) (s : BS) : Prop where
  reach : ∀ q ∈ s.1, Reach p0 q
  nodup : s.1.Nodup
  sub : ∀ q ∈ s.2, q ∈ s.1
theorem visit_ok {p0 p : List Int} {low : Bool} {s : BS} (hp : Reach p0 p) (h : BOk p0 s) : BOk p0 (visit low p s) where
  reach := fun q hq => by
    rcases mem_visit hq with z | z
    · exact h.reach q z
    · rw [z]; exact .step low hp
  nodup := visit_nodup h.nodup
  sub := fun q hq => by
    rcases mem_visit2 hq with z | z
    · exact (visit_grew low p s).sub _ (h.sub q z)
    · exact z.2
theorem bfs_ok (p : List Int) : ∀ j, BOk p (bfs p j)
  | 0 => ⟨fun q hq => by rw [List.mem_singleton.mp hq]; exact .self, List.pairwise_singleton _ _, fun q hq => hq⟩
  | j + 1 => by
    have ih := bfs_ok p j
    refine layerF_inv (BOk p) (fun q => Reach p q) (fun low q s h1 h2 => visit_ok h1 h2) _ _ (fun q hq => ih.reach q (ih.sub q hq)) ⟨ih.reach, ih.nodup, fun q hq => absurd hq List.not_mem_nil⟩
theorem bfs_done (p : List Int) : ∀ j, ∀ q ∈ (bfs p j).1, q ∈ (bfs p j).2 ∨ ∀ low, nextP low q ∈ (bfs p j).1
  | 0, q, hq => .inl hq
  | j + 1, q, hq => by
    have ih := bfs_done p j
    have key : ∀ (ps : List (List Int)) (s : BS), q ∈ (layerF ps s).1 → q ∈ s.1 ∨ q ∈ (layerF ps s).2 := by
      intro ps
      induction ps with
      | nil => exact fun s h => .inl h
      | cons x ps ih =>
        intro s h
        have one : ∀ low (s : BS), q ∈ (visit low x s).1 → q ∈ s.1 ∨ q ∈ (visit low x s).2 := fun low s h => by
          unfold visit at h ⊢
          by_cases c : nextP low x ∈ s.1
          · rw [if_pos c] at h; exact .inl h
          · rw [if_neg c] at h ⊢
            rcases List.mem_append.mp h with z | z
            · exact .inl z
            · exact .inr (List.mem_append_right _ z)
        rcases ih (visit2 x s) h with z | z
        · rcases one true _ z with z | z
          · rcases one false _ z with z | z
            · exact .inl z
            · exact .inr ((layerF_grew ps (visit2 x s)).lsub _ ((visit_grew true x _).lsub _ z))
          · exact .inr ((layerF_grew ps (visit2 x s)).lsub _ z)
        · exact .inr z
    rcases key (bfs p j).2 ((bfs p j).1, []) hq with z | z
    · rcases ih q z with y | y
      · exact .inr fun low => layerF_has _ _ q y low
      · exact .inr fun low => (layerF_grew _ _).sub _ (y low)
    · exact .inl z
/-- when no layer is left, all is found -/
theorem bfs_all {p : List Int} {j : Nat} (h : (bfs p j).2 = []) {q : List Int} (hr : Reach p q) : q ∈ (bfs p j).1 := by
  induction hr with
  | self =>
    have : ∀ j, p ∈ (bfs p j).1 := fun j => by
      induction j with
      | zero => exact List.mem_singleton.mpr rfl
      | succ j ih => exact (layerF_grew _ _).sub _ ih
    exact this j
  | step low _ ih =>
    rcases bfs_done p j _ ih with z | z
    · rw [h] at z; exact absurd z List.not_mem_nil
    · exact z low
theorem bfs_len (p : List Int) : ∀ j, (∀ i, i < j → (bfs p (i + 1)).2 ≠ []) → j + 1 ≤ (bfs p j).1.length
  | 0, _ => Nat.le_refl _
  | j + 1, h => by
    have ih := bfs_len p j fun i hi => h i (by omega)
    have g := (layerF_grew (bfs p j).2 ((bfs p j).1, [])).len
    have hne : (bfs p (j + 1)).2 ≠ [] := h j (Nat.lt_succ_self j)
    have hl : 0 < (bfs p (j + 1)).2.length := List.length_pos_iff.mpr hne
    have g2 : (bfs p j).1.length + (bfs p (j + 1)).2.length = (bfs p (j + 1)).1.length + 0 := g
    omega
/-- it ends -/
theorem bfs_ends {p : List Int} {U : List (List Int)} (hU : ∀ q, Reach p q → q ∈ U) : ∃ N, N ≤ U.length ∧ (bfs p N).2 = [] := by
  refine Classical.byContradiction fun hn => ?_
  have h : ∀ i, i < U.length → (bfs p (i + 1)).2 ≠ [] := fun i hi z => hn ⟨i + 1, hi, z⟩
  have h1 := bfs_len p U.length h
  have h2 := Pe.nodup_le (bfs p U.length).1 U (bfs_ok p _).nodup fun q hq => hU q ((bfs_ok p _).reach q hq)
  omega
theorem bfs_few {p : List Int} {U : List (List Int)} (hU : ∀ q, Reach p q → q ∈ U) (j : Nat) : (bfs p j).1.length ≤ U.length := Pe.nodup_le _ U (bfs_ok p j).nodup fun q hq => hU q ((bfs_ok p j).reach q hq)
theorem bfs_grow (p : List Int) (i : Nat) : ∀ j, ∀ q ∈ (bfs p i).1, q ∈ (bfs p (i + j)).1
  | 0, q, h => h
  | j + 1, q, h => (layerF_grew _ _).sub _ (bfs_grow p i j q h)
end Pd
end

section
set_option linter.all false
set_option maxRecDepth 100000
set_option maxHeartbeats 4000000
/-! walked. -/
namespace Pd
open PySem PySem.Spec PyProof.Rows L2
/-- what the dict's entries are: the first is the start, the others tell the way back -/
structure EntsOk (K : PySem.W.Frag) (H : Hp) (p0 : List Int) (a0 : Addr) (L : Pe.Ents) : Prop where
  first : L[0]? = some (p0, a0, .non)
  ft : ∀ p ∈ L, Pe.FT H p.2.1 (p.1.map V.int)
  back : ∀ (i : Nat) k b v, 1 ≤ i → L[i]? = some (k, b, v) → ∃ (j : Nat) (k' : List Int) (b' : Addr) (v' : V) (t : Addr) (st : Str), j < i ∧ L[j]? = some (k', b', v') ∧ v = .ref t ∧ SqT K H t [.str st, .ref b']
structure WkS (P : Program) (w : World) (K : PySem.W.Frag) (H0 H : Hp) (d lr : Addr) (p0 : List Int) (a0 : Addr) (L : Pe.Ents) (lt : Pe.Pairs) (s : BS) : Prop where
  same : Cf.Same H0 H
  hd : H d = some (Pe.DicO P w d L)
  hl : H lr = some (.lst (lt.map Pe.xRef))
  keys : L.map (·.1) = s.1
  lat : lt.map (·.2) = s.2
  ents : EntsOk K H p0 a0 L
  lin : ∀ q ∈ lt, ∃ (i : Nat) (v : V), L[i]? = some (q.2, q.1, v)
theorem FT_upd {H : Hp} {b c : Addr} {xs : List V} {u o : HO} (h : Pe.FT H b xs) (hc : H c = some u) (hu : ∀ o xs, u ≠ .frz o (.tup xs)) : Pe.FT (upd H c o) b xs := by
  obtain ⟨ob, e, d⟩ := h
  refine ⟨ob, ?_, d⟩
  rw [upd_ne (fun z => by rw [z, hc] at e; exact hu ob xs (Option.some.inj e))]
  exact e
theorem SqT_upd {K : PySem.W.Frag} {H : Hp} {b c : Addr} {xs : List V} {u o : HO} (h : SqT K H b xs) (hc : H c = some u) (hu : ∀ o xs, u ≠ .frz o (.tup xs)) (hu2 : ∀ xs, u ≠ .tup xs) : SqT K (upd H c o) b xs := by
  rcases h with (h | ⟨ob, h⟩) | h
  · exact .inl (.inl (by rw [upd_ne (fun z => by rw [z, hc] at h; exact hu2 xs (Option.some.inj h))]; exact h))
  · exact .inl (.inr ⟨ob, by rw [upd_ne (fun z => by rw [z, hc] at h; exact hu ob xs (Option.some.inj h))]; exact h⟩)
  · exact .inr h
theorem EntsOk.same {K : PySem.W.Frag} {H H' : Hp} {p0 : List Int} {a0 : Addr} {L : Pe.Ents} (h : EntsOk K H p0 a0 L) (sm : Cf.Same H H') : EntsOk K H' p0 a0 L where
  first := h.first
  ft := fun p hp => FT_same sm (h.ft p hp)
  back := fun i k b v hi e => let ⟨j, k', b', v', t, st, h1, h2, h3, h4⟩ := h.back i k b v hi e; ⟨j, k', b', v', t, st, h1, h2, h3, Cf_SqT sm h4⟩
theorem EntsOk.upd {K : PySem.W.Frag} {H : Hp} {p0 : List Int} {a0 c : Addr} {L : Pe.Ents} {u o : HO} (h : EntsOk K H p0 a0 L) (hc : H c = some u) (hu : ∀ o xs, u ≠ .frz o (.tup xs)) (hu2 : ∀ xs, u ≠ .tup xs) : EntsOk K (upd H c o) p0 a0 L where
  first := h.first
  ft := fun p hp => FT_upd (h.ft p hp) hc hu
  back := fun i k b v hi e => let ⟨j, k', b', v', t, st, h1, h2, h3, h4⟩ := h.back i k b v hi e; ⟨j, k', b', v', t, st, h1, h2, h3, SqT_upd h4 hc hu hu2⟩
theorem EntsOk.keys {K : PySem.W.Frag} {H : Hp} {p0 : List Int} {a0 : Addr} {L : Pe.Ents} (h : EntsOk K H p0 a0 L) : Pe.KeysAt K H L := fun p hp => (h.ft p hp).sqT
theorem none_back {H H' : Hp} {x : Addr} (sm : Cf.Same H H') (h : H' x = none) : H x = none := by
  cases e : H x with
  | none => rfl
  | some u => rw [sm _ _ e] at h; cases h
theorem dic_nf {P : Program} {w : World} {d : Addr} {L : Pe.Ents} : ∀ o xs, Pe.DicO P w d L ≠ .frz o (.tup xs) := fun _ _ z => nomatch z
theorem dic_nt {P : Program} {w : World} {d : Addr} {L : Pe.Ents} : ∀ xs, Pe.DicO P w d L ≠ .tup xs := fun _ z => nomatch z
theorem lst_nf {ys : List V} : ∀ o xs, HO.lst ys ≠ .frz o (.tup xs) := fun _ _ z => nomatch z
theorem lst_nt {ys : List V} : ∀ xs, HO.lst ys ≠ .tup xs := fun _ z => nomatch z
section
variable {P : Program} {w : World} {K : PySem.W.Frag} {H0 H : Hp} {d lr : Addr} {p0 : List Int} {a0 : Addr} {L : Pe.Ents} {lt : Pe.Pairs} {s : BS}
theorem WkS.to (h : WkS P w K H0 H d lr p0 a0 L lt s) {H' : Hp} (sm : Cf.Same H H') : WkS P w K H0 H' d lr p0 a0 L lt s :=
  ⟨h.same.trans sm, sm _ _ h.hd, sm _ _ h.hl, h.keys, h.lat, h.ents.same sm, h.lin⟩
theorem WkS.ne (h : WkS P w K H0 H d lr p0 a0 L lt s) : lr ≠ d := fun z => by
  have e := h.hl
  rw [z, h.hd] at e
  exact nomatch e
theorem WkS.put (h : WkS P w K H0 H d lr p0 a0 L lt s) {low : Bool} {p : List Int} {a : Addr} {i0 : Nat} {v0 : V} (hi : L[i0]? = some (p, a, v0)) {t T : Addr} {st : Str} (ht : Pe.FT H t ((nextP low p).map V.int)) (hT : SqT K H T [.str st, .ref a])
    (hn : nextP low p ∉ s.1) (hd0 : H0 d = none) (hl0 : H0 lr = none) :
    WkS P w K H0 (upd (upd H d (Pe.DicO P w d (L ++ [(nextP low p, t, .ref T)]))) lr (.lst (lt.map Pe.xRef ++ [.ref t]))) d lr p0 a0 (L ++ [(nextP low p, t, .ref T)]) (lt ++ [(t, nextP low p)]) (visit low p s) := by
  have hne := h.ne
  have hl1 : (upd H d (Pe.DicO P w d (L ++ [(nextP low p, t, .ref T)]))) lr = some (.lst (lt.map Pe.xRef)) := by rw [upd_ne hne]; exact h.hl
  have e1 : EntsOk K (upd (upd H d (Pe.DicO P w d (L ++ [(nextP low p, t, .ref T)]))) lr (.lst (lt.map Pe.xRef ++ [.ref t]))) p0 a0 L := (h.ents.upd h.hd dic_nf dic_nt).upd hl1 lst_nf lst_nt
  have hlen : 0 < L.length := by
    have := (List.getElem?_eq_some_iff.mp h.ents.first).1
    omega
  have hvis : visit low p s = (s.1 ++ [nextP low p], s.2 ++ [nextP low p]) := by unfold visit; rw [if_neg hn]
  refine ⟨fun b u e => ?_, by rw [upd_ne (Ne.symm hne), upd_same], by rw [upd_same, List.map_append]; rfl, ?_, ?_, ⟨?_, fun q hq => ?_, fun i k b v h1 e => ?_⟩, fun q hq => ?_⟩
  · rw [upd_ne (ne_of_none e hl0), upd_ne (ne_of_none e hd0)]
    exact h.same _ _ e
  · rw [hvis, List.map_append, h.keys]; rfl
  · rw [hvis, List.map_append, h.lat]; rfl
  · rw [List.getElem?_append_left hlen]; exact h.ents.first
  · rcases List.mem_append.mp hq with z | z
    · exact e1.ft q z
    · rw [List.mem_singleton.mp z]
      exact FT_upd (FT_upd ht h.hd dic_nf) hl1 lst_nf
  · have app : ∀ {j : Nat} {x}, L[j]? = some x → (L ++ [(nextP low p, t, V.ref T)])[j]? = some x := fun {j x} e => by rw [List.getElem?_append_left (List.getElem?_eq_some_iff.mp e).1]; exact e
    rcases Nat.lt_or_ge i L.length with c | c
    · rw [List.getElem?_append_left c] at e
      obtain ⟨j, k', b', v', t', st', q1, q2, q3, q4⟩ := e1.back i k b v h1 e
      exact ⟨j, k', b', v', t', st', q1, app q2, q3, q4⟩
    · have ei : i = L.length := by
        have := (List.getElem?_eq_some_iff.mp e).1
        rw [List.length_append] at this
        simp at this
        omega
      subst ei
      rw [List.getElem?_append_right (Nat.le_refl _), Nat.sub_self] at e
      cases e
      exact ⟨i0, p, a, v0, T, st, (List.getElem?_eq_some_iff.mp hi).1, app hi, rfl, SqT_upd (SqT_upd hT h.hd dic_nf dic_nt) hl1 lst_nf lst_nt⟩
  · rcases List.mem_append.mp hq with z | z
    · obtain ⟨i, v, e⟩ := h.lin q z
      exact ⟨i, v, by rw [List.getElem?_append_left (List.getElem?_eq_some_iff.mp e).1]; exact e⟩
    · rw [List.mem_singleton.mp z]
      exact ⟨L.length, .ref T, by rw [List.getElem?_append_right (Nat.le_refl _), Nat.sub_self]; rfl⟩
end
def stp (p : List Int) (s : BS) : Nat → BS
  | 0 => s
  | 1 => visit false p s
  | _ => visit2 p s
theorem stp_succ (p : List Int) (s : BS) {jj : Nat} (h : jj < 2) : stp p s (jj + 1) = visit (decide (jj = 1)) p (stp p s jj) := by
  rcases (show jj = 0 ∨ jj = 1 by omega) with e | e <;> subst e <;> rfl
theorem stp_ok {p0 p : List Int} {s : BS} (hp : Reach p0 p) (h : BOk p0 s) : ∀ jj, BOk p0 (stp p s jj)
  | 0 => h
  | 1 => visit_ok hp h
  | _ + 2 => visit_ok hp (visit_ok hp h)
theorem stp_grew (p : List Int) (s : BS) : ∀ jj, Grew s (stp p s jj)
  | 0 => Grew.refl s
  | 1 => visit_grew _ _ _
  | _ + 2 => visit2_grew _ _
/-- where the walk may go -/
structure Goes (P : Program) (w : World) (p0 : List Int) (U : List (List Int)) : Prop where
  inU : ∀ q, Reach p0 q → q ∈ U
  few : U.length ≤ 500
  ix : ∀ q, Reach p0 q → ixMax q + 1 < q.length
  len : ∀ q, Reach p0 q → q.length ≤ 1000
  nh : ∀ q, Reach p0 q → thash P w q ≠ Pe.noneHash
section
variable {P : Program} {w : World} {K : PySem.W.Frag} {mg : Str → Option Value} {base : Heap}
abbrev sWK : Stmt := topS 34
abbrev NWK : List Str := ["start", "goal", "found", "layer", "later", "places", "kind", "behind"]
theorem scWK : FnScope NWK ["start", "goal"] (defScope sWK) := ⟨rfl, rfl, rfl, by decide +kernel, rfl, by decide +kernel, by decide +kernel⟩
/-- the goal: None, or some places -/
def GoalAt (K : PySem.W.Frag) (H : Hp) (g : V) : Option (List Int) → Prop
  | none => g = .non
  | some k => ∃ ga, g = .ref ga ∧ SqT K H ga (k.map V.int)
def spWK (P : Program) (w : World) (K : PySem.W.Frag) : Sp := fun vs H Q _ => ∃ (a0 : Addr) (p0 : List Int) (g : V) (go : Option (List Int)) (U : List (List Int)), vs = [.ref a0, g] ∧ Pe.FT H a0 (p0.map V.int) ∧ GoalAt K H g go ∧ Goes P w p0 U ∧
  ∀ H' d L j, Cf.Same H H' → H d = none → H' d = some (Pe.DicO P w d L) → EntsOk K H' p0 a0 L → L.map (·.1) = (bfs p0 j).1 → ((bfs p0 j).2 = [] ∨ ∃ k, go = some k ∧ k ∈ (bfs p0 j).1) → Q (.ref d) H'
theorem ok_walked (B : TB mg) (hNX : Cal P w K mg base 1 "next_places" ["places", "kind"] spNX) (hW : ∃ aW, mg "WALKED" = some (.ref aW) ∧ KWalk K aW) (D : Dfn K mg "walked" sWK ["start", "goal"]) : Cal P w K mg base 2 "walked" ["start", "goal"] (spWK P w K) := by
  obtain ⟨aW, hW, kW⟩ := hW
  refine D.cal scWK (fun vs H Q E h => ?_) (fun f cdv A outer s H vs Q E hr h => ?_)
  · obtain ⟨a0, p0, g, go, U, rfl, _⟩ := h; rfl
  · obtain ⟨a0, p0, g, go, U, rfl, ha0, hg, G, q⟩ := h
    have hu1 : (A.deeper (envOfC "walked" (defScope sWK) s.heap.objs.size f cdv)).units + 1 < cLine := by have := hr.units; omega
    refine ⟨_, pss_cons (ps_par (i := 2) (j := 3) (by rfl) scWK.nd rfl rfl (by decide) rfl rfl (pa_cons (Pe.pe_dic1 hu1 (pv 0) pe_non) (pa_cons (pe_lst (pa_cons (pv 0) pa_nil)) pa_nil)) (by rfl))
      (pss_cons (ps_while PassesOwn.never (PW.pt (pw_and (pt_cmpR (op_neD hr.units) (pv 3) (pe_lst pa_nil) (nomark _)) (pw_and1 (pt_cmpR (Pe.op_dicNotIn hu1) (pv 1) (pv 2) rfl))))
        (pss_cons (ps_set (i := 4) scWK.nd rfl (.inl rfl) (pe_lst pa_nil))
        (pss_cons (ps_for PassesOwn.never rfl (pi_list (pv 3)) (pg_name (i := 5) scWK.nd rfl (.inl rfl))
          (pss_one (ps_for PassesOwn.never rfl (pi_tup (pe_glob (v := .ref aW) rfl hW rfl)) (pg_name (i := 6) scWK.nd rfl (.inl rfl))
            (pss_cons (ps_set (i := 7) scWK.nd rfl (.inl rfl) (pe_cal hNX hr (by decide) (by rfl) (pa_cons (pv 5) (pa_cons (pv 6) pa_nil))))
            (pss_one (ps_if (pt_cmpR (Pe.op_dicNotIn hu1) (pv 7) (pv 2) rfl)
              (pss_cons (ps_asg (pe_tup (pa_cons (pv 6) (pa_cons (pv 5) pa_nil))) (pg_sub (pv 2) (pv 7) (Pe.set_dic hu1)))
              (pss_one (ps_expr (pe_bm PySem.F.plainAttrs_list PySem.F.slot_list_append PySem.F.type_list_append mt_append (pv 4) (pa_cons (pv 7) pa_nil))))) pss_nil))))))
        (pss_one (ps_set (i := 3) scWK.nd rfl (.inl rfl) (pe_callTy call_list_of (by rfl) B.list (by decide +kernel) (pa_cons (pv 4) pa_nil)))))))
      (pss_one (ps_ret (pv 2)))), ?_⟩
    obtain ⟨N, hN1, hN⟩ := bfs_ends G.inU
    have hkl : ∀ j, (bfs p0 j).1.length ≤ 500 := fun j => Nat.le_trans (bfs_few G.inU j) G.few
    intro d nd
    refine ⟨.ref a0, rfl, a0, p0, rfl, (FT_same (Pf.same_upd nd) ha0).sqT, upd_same, ?_⟩
    rw [upd_upd]
    refine ⟨.ref a0, rfl, by show 1 ≤ sizeLine; decide, fun lr nl => ⟨_, _, rfl, ?_⟩⟩
    have sA : Cf.Same H (upd H d (Pe.DicO P w d [(p0, a0, .non)])) := Pf.same_upd nd
    have sB := sA.trans (Pf.same_upd (o := .lst [V.ref a0]) nl)
    have hlr0 : H lr = none := none_back sA nl
    have W0 : WkS P w K H (upd (upd H d (Pe.DicO P w d [(p0, a0, .non)])) lr (.lst [V.ref a0])) d lr p0 a0 [(p0, a0, .non)] [(a0, p0)] (bfs p0 0) := by
      refine ⟨sB, Pf.same_upd nl _ _ upd_same, upd_same, rfl, rfl, ⟨rfl, fun p hp => ?_, fun i k b v h1 e => ?_⟩, fun q hq => ?_⟩
      · rw [List.mem_singleton.mp hp]; exact FT_same sB ha0
      · have := (List.getElem?_eq_some_iff.mp e).1
        simp at this
        omega
      · rw [List.mem_singleton.mp hq]; exact ⟨0, .non, rfl⟩
    refine ⟨fun m σ H' => ∃ (j : Nat) (L : Pe.Ents) (lay : Pe.Pairs) (l' : Addr) (y4 y5 y6 y7 : Option V), j + m = N ∧ σ = [some (.ref a0), some g, some (.ref d), some (.ref l'), y4, y5, y6, y7] ∧ WkS P w K H H' d l' p0 a0 L lay (bfs p0 j), ⟨N, 0, _, _, lr, none, none, none, none, Nat.zero_add N, rfl, W0⟩, fun m σ H' hv => ?_⟩
    obtain ⟨j, L, lay, l', y4, y5, y6, y7, ej, rfl, W1⟩ := hv
    have hll : Dp K H' (.ref l') (.list ((lay.map (·.2)).map Pe.tupD)) := .lst (.inl (.inl W1.hl)) (Pe.dpTups fun p hp => by
      obtain ⟨i, v, e⟩ := W1.lin p hp
      exact (W1.ents.ft _ (List.mem_of_getElem? e)).sqT)
    refine ⟨.ref l', rfl, Nat.zero_le _, fun T0 nT0 => ?_⟩
    have W2 := W1.to (Pf.same_upd (o := .lst []) nT0)
    have hll2 : Dp K (upd H' T0 (.lst [])) (.ref l') (.list ((lay.map (·.2)).map Pe.tupD)) := .lst (.inl (.inl W2.hl)) (Pe.dpTups fun p hp => by
      obtain ⟨i, v, e⟩ := W2.lin p hp
      exact (W2.ents.ft _ (List.mem_of_getElem? e)).sqT)
    have heq : PyData.eqv (.list ((lay.map (·.2)).map Pe.tupD)) (.list []) = decide ((bfs p0 j).2 = []) := by rw [← W1.lat]; exact Pe.list_eqv _ []
    refine ⟨_, .list [], hll2, .lst (.inl (.inl upd_same)) .nil, Pe.listD_shaped _, by decide, _, rfl, ?_⟩
    rw [heq]
    have hgo : GoalAt K (upd H' T0 (.lst [])) g go := by
      cases go with
      | none => exact hg
      | some k => obtain ⟨ga, e, h⟩ := hg; exact ⟨ga, e, Cf_SqT W2.same h⟩
    by_cases hlay : (bfs p0 j).2 = []
    · rw [decide_eq_true hlay]
      refine iteF ?_
      exact ⟨.ref d, rfl, q _ d L j W2.same nd W2.hd W2.ents W2.keys (.inl hlay)⟩
    rw [decide_eq_false hlay]
    refine iteT ?_
    have hjN : j < N := by
      rcases Nat.lt_or_ge j N with c | c
      · exact c
      · have e2 : j = N := by omega
        rw [e2] at hlay
        exact absurd hN hlay
    have hkeys : Pe.KeysAt K (upd H' T0 (.lst [])) L := W2.ents.keys
    have test : ∀ (Rt : Prop) (Rf : Prop), (Rt) → ((∃ k, go = some k ∧ k ∈ (bfs p0 j).1) → Rf) → ∃ (d' : Addr) (L' : Pe.Ents), V.ref d = .ref d' ∧ (upd H' T0 (.lst [])) d' = some (Pe.DicO P w d' L') ∧ Pe.KeysAt K (upd H' T0 (.lst [])) L' ∧
        ((∃ (a : Addr) (k : List Int), g = .ref a ∧ SqT K (upd H' T0 (.lst [])) a (k.map V.int) ∧ ∃ b : Bool, V.bl (!decide (k ∈ L'.map (·.1))) = .bl b ∧ if b = true then Rt else Rf) ∨ (g = .non ∧ (∀ p ∈ L', thash P w p.1 ≠ Pe.noneHash) ∧ ∃ b : Bool, V.bl true = .bl b ∧ if b = true then Rt else Rf)) := fun Rt Rf ht hf => by
      refine ⟨d, L, rfl, W2.hd, hkeys, ?_⟩
      cases go with
      | none =>
        refine .inr ⟨hgo, fun p hp => G.nh _ ((bfs_ok p0 j).reach _ (by rw [← W2.keys]; exact List.mem_map.mpr ⟨p, hp, rfl⟩)), true, rfl, iteT ht⟩
      | some k =>
        obtain ⟨ga, e, h⟩ := hgo
        refine .inl ⟨ga, k, e, h, _, rfl, ?_⟩
        rw [W2.keys]
        by_cases c : k ∈ (bfs p0 j).1
        · rw [decide_eq_true c]; exact iteF (hf ⟨k, rfl, c⟩)
        · rw [decide_eq_false c]; exact iteT ht
    refine ⟨g, rfl, .ref d, rfl, test _ _ ?_ fun hk => ?_⟩
    case refine_2 => exact ⟨.ref d, rfl, q _ d L j W2.same nd W2.hd W2.ents W2.keys (.inr hk)⟩
    refine ⟨_, fun σ' H' h => h, ?_⟩
    refine ⟨Nat.zero_le _, fun l2 nl2 => ?_⟩
    have hl2H : H l2 = none := none_back W2.same nl2
    have hld : l' ≠ d := W2.ne
    have hl2l : l' ≠ l2 := fun z => by have e := W2.hl; rw [z, nl2] at e; cases e
    have W3 : WkS P w K H (upd (upd H' T0 (.lst [])) l2 (.lst [])) d l2 p0 a0 L [] ((bfs p0 j).1, []) := by
      have W2' := W2.to (Pf.same_upd (o := .lst []) nl2)
      exact ⟨W2'.same, W2'.hd, upd_same, W2'.keys, rfl, W2'.ents, fun q hq => absurd hq List.not_mem_nil⟩
    have hlay3 : (upd (upd H' T0 (.lst [])) l2 (.lst [])) l' = some (.lst (lay.map Pe.xRef)) := Pf.same_upd nl2 _ _ W2.hl
    have hnl : (bfs p0 j).2.length = lay.length := by rw [← W1.lat, List.length_map]
    refine ⟨.ref l', rfl, l', rfl, ⟨_, .inl (.inl hlay3)⟩, ?_⟩
    refine for_inv (n := lay.length) (fun i σ H3 => ∃ (L2 : Pe.Ents) (lt : Pe.Pairs) (z5 z6 z7 : Option V), σ = [some (.ref a0), some g, some (.ref d), some (.ref l'), some (.ref l2), z5, z6, z7] ∧ WkS P w K H H3 d l2 p0 a0 L2 lt (layerF ((bfs p0 j).2.take i) ((bfs p0 j).1, [])) ∧ H3 l' = some (.lst (lay.map Pe.xRef)) ∧
        (∀ (x : Nat) e, L[x]? = some e → L2[x]? = some e)) ⟨L, [], y5, y6, y7, rfl, W3, hlay3, fun _ _ e => e⟩ (fun σ H3 hv => ?_) (fun i σ H3 hi hv => ?_) (fun i σ H3 x H4 Nx hi hv hy hN => ?_)
    · obtain ⟨L2, lt, z5, z6, z7, rfl, W4, hl4, hx4⟩ := hv
      refine ⟨⟨_, .inl (.inl hl4), by rw [List.length_map]; exact Nat.le_refl _⟩, ?_⟩
      refine ⟨.ref l2, rfl, l2, _, rfl, .inl (.inl (.inl W4.hl)), fun l3 nl3 => ⟨m - 1, by omega, ?_⟩⟩
      rw [List.take_of_length_le (by omega)] at W4
      have W5 := W4.to (Pf.same_upd (o := .lst (lt.map Pe.xRef)) nl3)
      exact ⟨j + 1, L2, lt, l3, _, _, _, _, by omega, rfl, ⟨W5.same, W5.hd, upd_same, W5.keys, W5.lat, W5.ents, W5.lin⟩⟩
    · obtain ⟨L2, lt, z5, z6, z7, rfl, W4, hl4, hx4⟩ := hv
      exact ⟨_, Pe.xRef lay[i], .inl (.inl hl4), by rw [List.getElem?_map, List.getElem?_eq_getElem hi]; rfl⟩
    obtain ⟨L2, lt, z5, z6, z7, rfl, W4, hl4, hx4⟩ := hv
    obtain ⟨rfl, hx⟩ := hy
    have ex : x = Pe.xRef lay[i] := by
      have := hx _ (.inl (.inl hl4))
      rw [List.getElem?_map, List.getElem?_eq_getElem hi] at this
      exact (Option.some.inj this).symm
    subst ex
    have hpi : (bfs p0 j).2[i]? = some lay[i].2 := by rw [← W1.lat, List.getElem?_map, List.getElem?_eq_getElem hi]; rfl
    obtain ⟨i0, v0, hi0⟩ := W1.lin lay[i] (List.getElem_mem hi)
    have hreach : Reach p0 lay[i].2 := (bfs_ok p0 j).reach _ ((bfs_ok p0 j).sub _ (List.mem_of_getElem? hpi))
    refine ⟨aW, rfl, ⟨_, kW _⟩, ?_⟩
    refine for_inv (n := 2) (fun jj σ H5 => ∃ (L3 : Pe.Ents) (lt3 : Pe.Pairs) (z6 z7 : Option V), σ = [some (.ref a0), some g, some (.ref d), some (.ref l'), some (.ref l2), some (Pe.xRef lay[i]), z6, z7] ∧ WkS P w K H H5 d l2 p0 a0 L3 lt3 (stp lay[i].2 (layerF ((bfs p0 j).2.take i) ((bfs p0 j).1, [])) jj) ∧ H5 l' = some (.lst (lay.map Pe.xRef)) ∧
        (∀ (x : Nat) e, L[x]? = some e → L3[x]? = some e)) ⟨L2, lt, z6, z7, rfl, W4, hl4, hx4⟩ (fun σ H5 hv => ?_) (fun jj σ H5 hjj hv => ⟨_, .str (kindS (decide (jj = 1))), kW _, ?_⟩) (fun jj σ H5 x H6 Nx2 hjj hv hy hN2 => ?_)
    · obtain ⟨L3, lt3, z6, z7, rfl, W5, hl5, hx5⟩ := hv
      refine ⟨⟨_, kW _, Nat.le_refl _⟩, hN _ _ ⟨L3, lt3, _, z6, z7, rfl, ?_, hl5, hx5⟩⟩
      rw [layerF_take _ _ hpi]
      exact W5
    · rcases (show jj = 0 ∨ jj = 1 by omega) with e | e <;> subst e <;> rfl
    obtain ⟨L3, lt3, z6, z7, rfl, W5, hl5, hx5⟩ := hv
    obtain ⟨rfl, hx2⟩ := hy
    have ex2 : x = .str (kindS (decide (jj = 1))) := by
      have := hx2 _ (kW _)
      rcases (show jj = 0 ∨ jj = 1 by omega) with e | e <;> subst e <;> exact (Option.some.inj this).symm
    subst ex2
    have hi3 := hx5 _ _ hi0
    have hft : Pe.FT H6 lay[i].1 (lay[i].2.map V.int) := W5.ents.ft _ (List.mem_of_getElem? hi3)
    refine ⟨_, rfl, _, rfl, lay[i].1, lay[i].2, decide (jj = 1), rfl, hft, G.len _ hreach, G.ix _ hreach, fun H7 t sm7 nt7 ft7 => ?_⟩
    have W6 := W5.to sm7
    refine ⟨.ref t, rfl, .ref d, rfl, d, L3, rfl, W6.hd, W6.ents.keys, .inl ⟨t, nextP (decide (jj = 1)) lay[i].2, rfl, ft7.sqT, _, rfl, ?_⟩⟩
    rw [W6.keys]
    by_cases hin : nextP (decide (jj = 1)) lay[i].2 ∈ (stp lay[i].2 (layerF ((bfs p0 j).2.take i) ((bfs p0 j).1, [])) jj).1
    · rw [decide_eq_true hin]
      refine iteF ?_
      refine hN2 _ _ ⟨L3, lt3, _, _, rfl, ?_, sm7 _ _ hl5, hx5⟩
      rw [stp_succ _ _ hjj]
      unfold visit
      rw [if_pos hin]
      exact W6
    rw [decide_eq_false hin]
    refine iteT ?_
    refine ⟨_, rfl, _, rfl, by show 2 ≤ sizeLine; decide, fun T nT => ?_⟩
    have W7 := W6.to (Pf.same_upd (o := .tup [.str (kindS (decide (jj = 1))), Pe.xRef lay[i]]) nT)
    have hnk : nextP (decide (jj = 1)) lay[i].2 ∉ L3.map (·.1) := by rw [W7.keys]; exact hin
    have hBl : BOk p0 (layerF ((bfs p0 j).2.take i) ((bfs p0 j).1, [])) := layerF_inv (BOk p0) (fun q => Reach p0 q) (fun low q s h1 h2 => visit_ok h1 h2) _ _ (fun q hq => (bfs_ok p0 j).reach q ((bfs_ok p0 j).sub q (List.mem_of_mem_take hq))) ⟨(bfs_ok p0 j).reach, (bfs_ok p0 j).nodup, fun q hq => absurd hq List.not_mem_nil⟩
    have hB := stp_ok hreach hBl jj
    have hGr := ((layerF_grew ((bfs p0 j).2.take i) ((bfs p0 j).1, [])).trans (stp_grew lay[i].2 _ jj)).len
    have hk5 := Nat.le_trans (Pe.nodup_le _ U hB.nodup fun q hq => G.inU q (hB.reach q hq)) G.few
    have hL3 : L3.length < 1000 := by
      have h1 : L3.length = (stp lay[i].2 (layerF ((bfs p0 j).2.take i) ((bfs p0 j).1, [])) jj).1.length := by rw [← W7.keys, List.length_map]
      omega
    refine ⟨.ref d, rfl, .ref t, rfl, d, t, nextP (decide (jj = 1)) lay[i].2, L3, rfl, rfl, W7.hd, W7.ents.keys, (FT_same (Pf.same_upd nT) ft7).sqT, hnk, hL3, ?_⟩
    have hll2 : (upd (upd H7 T (.tup [.str (kindS (decide (jj = 1))), Pe.xRef lay[i]])) d (Pe.DicO P w d (L3 ++ [(nextP (decide (jj = 1)) lay[i].2, t, .ref T)]))) l2 = some (.lst (lt3.map Pe.xRef)) := by
      rw [upd_ne W7.ne]; exact W7.hl
    refine ⟨.ref l2, rfl, .inl ⟨rfl, _, .inl (.inl hll2)⟩, .ref t, rfl, l2, _, _, rfl, rfl, hll2, ?_, ?_⟩
    · have h2 : lt3.length = (stp lay[i].2 (layerF ((bfs p0 j).2.take i) ((bfs p0 j).1, [])) jj).2.length := by rw [← W7.lat, List.length_map]
      have h3 : ((bfs p0 j).1, ([] : List (List Int))).2.length = 0 := rfl
      exact Pf.small1000' (by rw [List.length_map]; omega)
    · refine hN2 _ _ ⟨L3 ++ [(nextP (decide (jj = 1)) lay[i].2, t, .ref T)], lt3 ++ [(t, nextP (decide (jj = 1)) lay[i].2)], _, _, rfl, ?_, ?_, fun y e he => ?_⟩
      · rw [stp_succ _ _ hjj]
        exact W7.put hi3 (FT_same (Pf.same_upd nT) ft7) (.inl (.inl upd_same)) hin nd hl2H
      · rw [upd_ne hl2l, upd_ne hld]
        exact Pf.same_upd nT _ _ (sm7 _ _ hl5)
      · rw [List.getElem?_append_left (List.getElem?_eq_some_iff.mp (hx5 _ _ he)).1]
        exact hx5 _ _ he
end
end Pd
end

section
set_option linter.all false
set_option maxRecDepth 100000
set_option maxHeartbeats 2000000
/-! is_row, needless_in, row_in. -/
namespace Pd
open PySem PySem.Spec PyProof.Rows L2
abbrev nmV (i : Nat) : V := .str (nm i)
/-- a row of names, by their numbers -/
structure RowOk (us : List Nat) : Prop where
  lt : ∀ u ∈ us, u < 7
  nd : us.Nodup
  two : 2 ≤ us.length
  few : us.length ≤ 7
theorem nm_inj {i j : Nat} (h : nm i = nm j) : i = j := by
  unfold nm at h
  have h1 := congrArg Str.cps h
  have h2 : (#[97 + i] : Array Nat)[0]? = (#[97 + j] : Array Nat)[0]? := by
    have h3 : (#[97 + i] : Array Nat) = #[97 + j] := h1
    rw [h3]
  have h4 : some (97 + i) = some (97 + j) := h2
  have := Option.some.inj h4
  omega
theorem tyx_sqt {K : PySem.W.Frag} {H : Hp} {a : Addr} {xs : List V} (h : SqT K H a xs) : TyX K H (.ref a) (.type "tuple") := by
  rcases h with (h | ⟨o, h⟩) | ⟨o, its, n, h1, h2, _⟩
  · exact .base (.tup h)
  · exact .fTuple h
  · exact .kTuple h1 h2
/-- the pairs of a row's dict -/
def kvI (f : Nat → V) (us : List Nat) : List (Key × V) := us.mapIdx fun i u => ((Sum.inr (nm u) : Key), f i)
theorem kvI_take (f : Nat → V) {us : List Nat} {i u : Nat} (h : us[i]? = some u) : kvI f (us.take (i + 1)) = kvI f (us.take i) ++ [(Sum.inr (nm u), f i)] := by
  unfold kvI
  have hi := (List.getElem?_eq_some_iff.mp h).1
  rw [List.take_add_one, h]
  show (us.take i ++ [u]).mapIdx _ = _
  rw [List.mapIdx_concat, List.length_take, Nat.min_eq_left (Nat.le_of_lt hi)]
theorem valV_first {v : V} {k : Key} : ∀ (kvs : List (Key × V)) (i : Nat), kvs[i]? = some (k, v) → (∀ j p, j < i → kvs[j]? = some p → p.1 ≠ k) → valV kvs k = some v
  | [], i, h, _ => by simp at h
  | p :: kvs, 0, h, _ => by
    cases h
    exact valV_pos rfl
  | p :: kvs, i + 1, h, hn => by
    have ih := valV_first kvs i (by simpa using h) fun j q hj e => hn (j + 1) q (by omega) (by simpa using e)
    have h0 : p.1 ≠ k := hn 0 p (Nat.zero_lt_succ _) rfl
    unfold valV at ih ⊢
    rw [List.find?_cons_of_neg (by simpa using h0)]
    exact ih
theorem valV_out {k : Key} {kvs : List (Key × V)} (h : ∀ p ∈ kvs, p.1 ≠ k) : valV kvs k = none := by
  unfold valV
  rw [List.find?_eq_none.mpr fun p hp => by simpa using h p hp]; rfl
theorem kvI_get (f : Nat → V) (us : List Nat) (i : Nat) : (kvI f us)[i]? = (us[i]?).map fun u => ((Sum.inr (nm u) : Key), f i) := by
  unfold kvI
  rw [List.getElem?_mapIdx]
theorem kvI_new (f : Nat → V) {us : List Nat} (nd : us.Nodup) {i u : Nat} (h : us[i]? = some u) : valV (kvI f (us.take i)) (Sum.inr (nm u)) = none := by
  refine valV_out fun p hp => ?_
  obtain ⟨j, hj⟩ := List.mem_iff_getElem?.mp hp
  rw [kvI_get] at hj
  obtain ⟨x, hx, e⟩ := Option.map_eq_some_iff.mp hj
  rw [← e]
  intro z
  have z2 : nm x = nm u := Sum.inr.inj z
  have z3 := nm_inj z2
  subst z3
  rw [List.getElem?_take] at hx
  split at hx
  · rename_i hji
    have hl := (List.getElem?_eq_some_iff.mp h).1
    exact absurd ((List.getElem?_inj (by omega) nd).mp (hx.trans h.symm)) (by omega)
  · cases hx
theorem kvI_val (f : Nat → V) {us : List Nat} {u : Nat} (h : u ∈ us) : valV (kvI f us) (Sum.inr (nm u)) = some (f (us.idxOf u)) := by
  have hlt : us.idxOf u < us.length := List.idxOf_lt_length_iff.mpr h
  refine valV_first _ (us.idxOf u) (by rw [kvI_get, List.getElem?_eq_getElem hlt, List.getElem_idxOf hlt]; rfl) fun j p hj e => ?_
  rw [kvI_get] at e
  obtain ⟨x, hx, rfl⟩ := Option.map_eq_some_iff.mp e
  intro z
  have z2 := nm_inj (Sum.inr.inj z : nm x = nm u)
  subst z2
  have hne : (us[j]'(by omega) == x) = false := List.not_of_lt_findIdx (p := (· == x)) hj
  rw [List.getElem?_eq_getElem (by omega)] at hx
  rw [Option.some.inj hx] at hne
  simp at hne
theorem kvI_len (f : Nat → V) (us : List Nat) : (kvI f us).length = us.length := List.length_mapIdx
/-- a dict comprehension whose i-th turn gives the i-th pair -/
theorem dc_same {J : It} {H1 : Hp} {us : List Nat} {f : Nat → V} {D : Addr} {fin : Hp → Prop} {step : (Hp → Prop) → V → Hp → Prop} (hD : H1 D = none) (hstop : ∀ H, Cf.Same H1 H → J.stop us.length H) (hgo : ∀ i H, i < us.length → Cf.Same H1 H → J.go i H)
    (hfin : ∀ H, Cf.Same H1 H → H D = some (.dK (kvI f us)) → fin H)
    (hstep : ∀ (i u : Nat) (H : Hp) (x : V) (H' : Hp) (Nx : Hp → Prop), us[i]? = some u → Cf.Same H1 H → H D = some (.dK (kvI f (us.take i))) → J.yld i H x H' → (∀ H'', Cf.Same H1 H'' → H'' D = some (.dK (kvI f (us.take (i + 1)))) → Nx H'') → step Nx x H') :
    ∃ W : Nat → Nat → Hp → Prop, (∃ m, W 0 m (upd H1 D (.dK []))) ∧ ∀ (i m : Nat) (H : Hp), W i m H → (J.stop i H ∧ fin H) ∨ (J.go i H ∧ ∃ Nx : Hp → Prop, (∀ H', Nx H' → ∃ m', m' < m ∧ W (i + 1) m' H') ∧ ∀ (x : V) (H' : Hp), J.yld i H x H' → step Nx x H') := by
  refine ⟨fun i m H => i + m = us.length ∧ Cf.Same H1 H ∧ H D = some (.dK (kvI f (us.take i))), ⟨us.length, Nat.zero_add _, Pf.same_upd hD, by rw [upd_same]; rfl⟩, fun i m H hW => ?_⟩
  obtain ⟨e, sm, hd⟩ := hW
  by_cases hi : i < us.length
  · refine .inr ⟨hgo i H hi sm, fun H'' => Cf.Same H1 H'' ∧ H'' D = some (.dK (kvI f (us.take (i + 1)))), fun H' h => ⟨m - 1, by omega, by omega, h.1, h.2⟩, fun x H' hy => ?_⟩
    exact hstep i us[i] H x H' _ (List.getElem?_eq_getElem hi) sm hd hy fun H'' h1 h2 => ⟨h1, h2⟩
  · have e' : i = us.length := by omega
    subst e'
    refine .inl ⟨hstop H sm, hfin H sm ?_⟩
    rw [hd, List.take_length]
/-- one more pair -/
theorem dacc_ok {H1 H5 : Hp} {D : Addr} {us : List Nat} {f : Nat → V} {i u : Nat} {Nx : Hp → Prop} (nd : us.Nodup) (h1000 : us.length < 1000) (hD : H1 D = none) (hd : H5 D = some (.dK (kvI f (us.take i)))) (hu : us[i]? = some u) (sm : Cf.Same H1 H5)
    (hN : ∀ H'', Cf.Same H1 H'' → H'' D = some (.dK (kvI f (us.take (i + 1)))) → Nx H'') : ∃ (kvs : List (Key × V)) (k : Key), nmV u = kV k ∧ H5 D = some (.dK kvs) ∧ kvs.length < sizeLine ∧ Nx (upd H5 D (.dK (putK kvs k (f i)))) := by
  refine ⟨_, Sum.inr (nm u), rfl, hd, Pf.small1000' (by rw [kvI_len, List.length_take]; omega), hN _ (fun b z e => ?_) ?_⟩
  · rw [upd_ne (ne_of_none e hD)]
    exact sm b z e
  · rw [upd_same, putK_new _ (kvI_new f nd hu), kvI_take f hu]
section
variable {P : Program} {w : World} {K : PySem.W.Frag} {mg : Str → Option Value} {base : Heap}
abbrev sRw : Stmt := topS 19
abbrev NRw : List Str := ["value", "name"]
theorem scRw : FnScope NRw ["value"] (defScope sRw) := ⟨rfl, rfl, rfl, by decide +kernel, rfl, by decide +kernel, by decide +kernel⟩
def spRw (K : PySem.W.Frag) : Sp := fun vs H Q _ => ∃ (a : Addr) (us : List Nat), vs = [.ref a] ∧ SqT K H a (us.map nmV) ∧ RowOk us ∧ ∀ H', Cf.Same H H' → Q (.bl true) H'
theorem ok_is_row (B : TB mg) (hNa : Cal P w K mg base 1 "is_name" ["value"] spNa) (hM : ∃ t, mg "MAX_NAMES" = some (.int 40 t)) (D : Dfn K mg "is_row" sRw ["value"]) : Cal P w K mg base 2 "is_row" ["value"] (spRw K) := by
  obtain ⟨tM, hM⟩ := hM
  refine D.cal scRw (fun vs H Q E h => ?_) (fun f cdv A outer s H vs Q E hr h => ?_)
  · obtain ⟨a, us, rfl, _⟩ := h; rfl
  · obtain ⟨a, us, rfl, ha, R, q⟩ := h
    refine ⟨_, pss_cons (ps_if (PW.pt (pw_or (pt_not (pt_val (pe_callB call_isi (by rfl) B.isi (by decide +kernel) (pa_cons (pv 0) (pa_cons (pe_bltn (v := .ty "tuple") rfl B.tuple (by decide +kernel) rfl) pa_nil)))))
        (pw_or (pt_not (pt_chain op_le op_le pe_int (pe_callB call_len_seq (by rfl) B.len PySem.boot_len (pa_cons (pv 0) pa_nil)) (pe_glob (v := .int 40) rfl hM ⟨_, rfl⟩)))
          (pw_or1 (pt_not (pt_val (pe_callB (cr_all rfl) (by rfl) B.all (by decide +kernel) (pa_cons
            (pe_lc (own := [("name", 1)]) (g := gName 1) (tt := tYes) rfl scRw.nd (pi_tup (pv 0)) (blkOk_by (N := NRw) (sc := defScope sRw) (by decide +kernel)) (fun _ _ _ _ _ => pg_name (i := 1) scRw.nd rfl (Or.inl rfl)) (fun _ _ _ _ _ => pts_nil)
              (fun _ _ _ _ _ => pe_cal hNa hr (by decide) (by rfl) (pa_cons (pv 1) pa_nil))) pa_nil))))))))
        (pss_one ps_never) pss_nil)
      (pss_one (ps_ret (pe_cmpR op_eq (pe_callB call_lenD (by rfl) B.len PySem.boot_len (pa_cons
          (pe_dc (own := [("name", 1)]) (g := gName 1) (tt := tYes) rfl scRw.nd (pi_tup (pv 0)) (blkOk_by (N := NRw) (sc := defScope sRw) (by decide +kernel)) (fun _ _ _ _ _ => pg_name (i := 1) scRw.nd rfl (Or.inl rfl)) (fun _ _ _ _ _ => pts_nil)
            (fun _ _ _ _ _ => pv 1) (fun _ _ _ _ _ => pe_bl)) pa_nil)) (pe_callB call_len_seq (by rfl) B.len PySem.boot_len (pa_cons (pv 0) pa_nil)) (nomark _)))), ?_⟩
    have haT : ∀ {H' : Hp}, Cf.Same H H' → SqT K H' a (us.map nmV) := fun sm => Cf_SqT sm ha
    have hln : (us.map nmV).length = us.length := List.length_map ..
    have h2 := R.two
    have h7 := R.few
    refine ⟨.ref a, rfl, .ref a, .ty "tuple", .type "tuple", .type "tuple", true, rfl, .ty "tuple", tyx_sqt ha, kit_ty (by decide +kernel), true, rfl, iteF ?_⟩
    refine ⟨.ref a, rfl, a, _, rfl, .inr ha, 1, ((us.map nmV).length : Int), rfl, rfl, true, congrArg V.bl (decide_eq_true (by rw [hln]; omega)), iteT ?_⟩
    refine ⟨((us.map nmV).length : Int), 40, rfl, rfl, true, congrArg V.bl (decide_eq_true (by rw [hln]; omega)), iteF ?_⟩
    refine ⟨.ref a, rfl, a, rfl, ⟨_, ha⟩, fun D hD => ?_⟩
    refine lc_tupS (ys := (us.map fun _ => true).map V.bl) hD ha (by rw [List.length_map, List.length_map, hln]) (fun H' sm hl => ?_) (fun i H' x Nx hx sm hd hN => ?_)
    case refine_2 =>
      rw [List.getElem?_map] at hx
      obtain ⟨u, hu, rfl⟩ := Option.map_eq_some_iff.mp hx
      refine ⟨rfl, iteT (B := Nx H') ?_⟩
      refine ⟨nmV u, rfl, u, rfl, R.lt u (List.mem_of_getElem? hu), fun H2 sm2 => ?_⟩
      exact acc_ok hD (sm2 _ _ hd) (by rw [List.getElem?_map, List.getElem?_map, hu]; rfl) (by have := (List.getElem?_eq_some_iff.mp hu).1; omega) (sm.trans sm2) hN
    refine ⟨D, us.map fun _ => true, rfl, .inl (.inl hl), true, ?_, iteF ?_⟩
    · refine congrArg V.bl (List.all_eq_true.mpr fun b hb => ?_)
      obtain ⟨_, _, rfl⟩ := List.mem_map.mp hb; rfl
    refine ⟨.ref a, rfl, a, rfl, ⟨_, haT sm⟩, fun D2 hD2 => ?_⟩
    refine dc_same (us := us) (f := fun _ => .bl true) hD2 (fun H2 sm2 => ⟨_, haT (sm.trans sm2), by rw [hln]; exact Nat.le_refl _⟩) (fun i H2 hi sm2 => ⟨_, nmV us[i], haT (sm.trans sm2), by rw [List.getElem?_map, List.getElem?_eq_getElem hi]; rfl⟩) (fun H2 sm2 hl2 => ?_)
      (fun i u H2 x H3 Nx hu sm2 hd2 hy hN => ?_)
    case refine_2 =>
      obtain ⟨rfl, hx⟩ := hy
      have ex : x = nmV u := by
        have := hx _ (haT (sm.trans sm2))
        rw [List.getElem?_map, hu] at this
        exact (Option.some.inj this).symm
      subst ex
      refine ⟨rfl, iteT (B := Nx H3) ?_⟩
      exact ⟨nmV u, rfl, dacc_ok R.nd (by omega) hD2 hd2 hu sm2 hN⟩
    refine ⟨D2, _, rfl, hl2, ?_⟩
    refine ⟨.ref a, rfl, a, _, rfl, .inr (haT (sm.trans sm2)), rfl, ?_⟩
    have e : decide (V.int ((kvI (fun _ => V.bl true) us).length : Int) = V.int ((us.map nmV).length : Int)) = true := decide_eq_true (by rw [kvI_len, hln])
    show Q (V.bl (decide (V.int ((kvI (fun _ => V.bl true) us).length : Int) = V.int ((us.map nmV).length : Int)))) _
    rw [e]
    exact q _ (sm.trans sm2)
end
end Pd
end

section
set_option linter.all false
set_option maxRecDepth 100000
set_option maxHeartbeats 2000000
/-! needless_in, row_in. -/
namespace Pd
open PySem PySem.Spec PyProof.Rows L2
/-- a comprehension's reading, whatever comes out -/
theorem lc_some {J : It} {H1 : Hp} {n : Nat} {D : Addr} {fin : Hp → Prop} {step : (Hp → Prop) → V → Hp → Prop} (hD : H1 D = none) (hstop : ∀ H, Cf.Same H1 H → J.stop n H) (hgo : ∀ i H, i < n → Cf.Same H1 H → J.go i H)
    (hfin : ∀ H acc, Cf.Same H1 H → H D = some (.lst acc) → acc.length ≤ n → fin H)
    (hstep : ∀ (i : Nat) (H : Hp) (x : V) (H' : Hp) (Nx : Hp → Prop) (acc : List V), i < n → Cf.Same H1 H → H D = some (.lst acc) → acc.length ≤ i → J.yld i H x H' → (∀ H'' acc', Cf.Same H1 H'' → H'' D = some (.lst acc') → acc'.length ≤ i + 1 → Nx H'') → step Nx x H') :
    ∃ W : Nat → Nat → Hp → Prop, (∃ m, W 0 m (upd H1 D (.lst []))) ∧ ∀ (i m : Nat) (H : Hp), W i m H → (J.stop i H ∧ fin H) ∨ (J.go i H ∧ ∃ Nx : Hp → Prop, (∀ H', Nx H' → ∃ m', m' < m ∧ W (i + 1) m' H') ∧ ∀ (x : V) (H' : Hp), J.yld i H x H' → step Nx x H') := by
  refine ⟨fun i m H => i + m = n ∧ Cf.Same H1 H ∧ ∃ acc, H D = some (.lst acc) ∧ acc.length ≤ i, ⟨n, Nat.zero_add n, Pf.same_upd hD, [], upd_same, Nat.le_refl _⟩, fun i m H hW => ?_⟩
  obtain ⟨e, sm, acc, hd, hl⟩ := hW
  by_cases hi : i < n
  · refine .inr ⟨hgo i H hi sm, fun H'' => Cf.Same H1 H'' ∧ ∃ acc, H'' D = some (.lst acc) ∧ acc.length ≤ i + 1, fun H' h => ⟨m - 1, by omega, by omega, h.1, h.2⟩, fun x H' hy => ?_⟩
    exact hstep i H x H' _ acc hi sm hd hl hy fun H'' acc' h1 h2 h3 => ⟨h1, acc', h2, h3⟩
  · have e' : i = n := by omega
    subst e'
    exact .inl ⟨hstop H sm, hfin H acc sm hd hl⟩
section
variable {P : Program} {w : World} {K : PySem.W.Frag} {mg : Str → Option Value} {base : Heap}
abbrev sNI : Stmt := topS 22
abbrev NNI : List Str := ["upper", "places", "one", "other"]
theorem scNI : FnScope NNI ["upper", "places"] (defScope sNI) := ⟨rfl, rfl, rfl, by decide +kernel, rfl, by decide +kernel, by decide +kernel⟩
def spNI (K : PySem.W.Frag) : Sp := fun vs H Q _ => ∃ (a d : Addr) (us : List Nat) (kvs : List (Key × V)), vs = [.ref a, .ref d] ∧ SqT K H a (us.map nmV) ∧ RowOk us ∧ H d = some (.dK kvs) ∧ (∀ u ∈ us, ∃ i : Int, valV kvs (Sum.inr (nm u)) = some (.int i)) ∧
  ∀ H' t, Cf.Same H H' → Q (.ref t) H'
theorem ok_needless_in (B : TB mg) (D : Dfn K mg "needless_in" sNI ["upper", "places"]) : Cal P w K mg base 1 "needless_in" ["upper", "places"] (spNI K) := by
  refine D.cal scNI (fun vs H Q E h => ?_) (fun f cdv A outer s H vs Q E hr h => ?_)
  · obtain ⟨a, d, us, kvs, rfl, _⟩ := h; rfl
  · obtain ⟨a, d, us, kvs, rfl, ha, R, hd, hv, q⟩ := h
    have hu1 : (A.deeper (envOfC "needless_in" (defScope sNI) s.heap.objs.size f cdv)).units + 1 < cLine := by have := hr.units; omega
    refine ⟨_, pss_one (ps_ret (pe_callTy Pe.call_tupleF (by rfl) B.tuple (by decide +kernel) (pa_cons
        (pe_lc (own := [("one", 2), ("other", 3)]) (g := gTup K 2 (gCons (gName 2) (gCons (gName 3) gNil))) rfl scNI.nd (RZ.pi_zipA (by rfl) B.zip (pa_cons (pv 0) (pa_cons (pe_slice sl_tup (pv 0) (po_some pe_int) po_none) pa_nil)))
          (blkOk_by (N := NNI) (sc := defScope sNI) (by decide +kernel)) (fun _ _ _ _ _ => pg_tup rfl (pgs_cons (pg_name (i := 2) scNI.nd rfl (Or.inl rfl)) (pgs_cons (pg_name (i := 3) scNI.nd rfl (Or.inl rfl)) pgs_nil)))
          (fun _ _ _ _ _ => pts_one (pt_cmpR op_eq (pe_dget hu1 (pv 1) (pv 3) (fun _ _ => rfl)) (pe_op op_add (pe_dget hu1 (pv 1) (pv 2) (fun _ _ => rfl)) pe_int) (nomark _)))
          (fun _ _ _ _ _ => pe_tup (pa_cons (pv 2) (pa_cons (pv 3) pa_nil)))) pa_nil))), ?_⟩
    have haT : ∀ {H' : Hp}, Cf.Same H H' → SqT K H' a (us.map nmV) := fun sm => Cf_SqT sm ha
    have hln : (us.map nmV).length = us.length := List.length_map ..
    have h2 := R.two
    have h7 := R.few
    refine ⟨.ref a, rfl, .ref a, rfl, 1, rfl, a, _, rfl, ha, fun z => ?_, fun p np => ?_⟩
    · have := z.1
      rw [show (1 : Int) = ((1 : Nat) : Int) from rfl, HT.sIx_nat, hln] at this
      omega
    have ecut : cutV (us.map nmV) (some 1) none = (us.drop 1).map nmV := by
      have := Pf.cut_drop (us.map nmV) 1 (by rw [hln]; omega)
      rw [show ((1 : Nat) : Int) = 1 from rfl] at this
      rw [this, List.map_drop]
    rw [ecut]
    have s1 : Cf.Same H (upd H p (.tup ((us.drop 1).map nmV))) := Pf.same_upd np
    refine ⟨a, p, _, _, rfl, .inr ⟨haT s1, .inl (.inl upd_same), fun D hD => ?_⟩⟩
    refine lc_some (n := us.length - 1) hD (fun H2 sm2 => ⟨_, _, haT (s1.trans sm2), Cf_SqT sm2 (.inl (.inl upd_same)), .inr (by rw [List.length_map, List.length_drop]; exact Nat.le_refl _)⟩)
      (fun i H2 hi sm2 => ⟨_, _, nmV us[i], nmV us[i + 1], haT (s1.trans sm2), Cf_SqT sm2 (.inl (.inl upd_same)), by rw [List.getElem?_map, List.getElem?_eq_getElem (by omega)]; rfl, by rw [List.getElem?_map, List.getElem?_drop, Nat.add_comm 1 i, List.getElem?_eq_getElem (by omega)]; rfl⟩)
      (fun H2 acc sm2 hl2 hle => ?_) (fun i H2 x H3 Nx acc hi sm2 hd2 hle hy hN => ?_)
    · refine ⟨D, acc, rfl, .inl (.inl hl2), fun t o nt od => q _ t ((s1.trans sm2).trans (Pf.same_upd nt))⟩
    · obtain ⟨T, x1, y1, rfl, nT, rfl, hx1, hy1⟩ := hy
      have ex : x1 = nmV us[i] := by
        have := hx1 _ (haT (s1.trans sm2))
        rw [List.getElem?_map, List.getElem?_eq_getElem (by omega)] at this
        exact (Option.some.inj this).symm
      have ey : y1 = nmV us[i + 1] := by
        have := hy1 _ (Cf_SqT sm2 (.inl (.inl upd_same)))
        rw [List.getElem?_map, List.getElem?_drop, Nat.add_comm 1 i, List.getElem?_eq_getElem (by omega)] at this
        exact (Option.some.inj this).symm
      subst ex ey
      have sT := sm2.trans (Pf.same_upd (o := .tup [nmV us[i], nmV us[i + 1]]) nT)
      have hdT : (upd H2 T (.tup [nmV us[i], nmV us[i + 1]])) d = some (.dK kvs) := sT _ _ (s1 _ _ hd)
      obtain ⟨i1, e1⟩ := hv us[i + 1] (List.getElem_mem _)
      obtain ⟨i2, e2⟩ := hv us[i] (List.getElem_mem _)
      refine ⟨T, _, rfl, .inl (.inl upd_same), rfl, _, [_], rfl, _, [], rfl, rfl, ?_⟩
      refine ⟨rfl, ?_⟩
      refine ⟨.ref d, rfl, nmV us[i + 1], rfl, d, .int i1, rfl, by rw [← e1]; exact DGet.k (k := Sum.inr (nm us[i + 1])) hdT, ?_⟩
      refine ⟨.ref d, rfl, nmV us[i], rfl, d, .int i2, rfl, by rw [← e2]; exact DGet.k (k := Sum.inr (nm us[i])) hdT, i2, 1, rfl, rfl, ?_⟩
      refine ⟨rfl, _, rfl, ?_⟩
      have hdD := Pf.same_upd (o := .tup [nmV us[i], nmV us[i + 1]]) nT _ _ hd2
      refine ite2 (fun _ => ?_) (fun _ => hN _ acc sT hdD (by omega))
      refine ⟨_, rfl, _, rfl, by show 2 ≤ sizeLine; decide, fun T2 nT2 => ?_⟩
      refine ⟨acc, Pf.same_upd nT2 _ _ hdD, Pf.small1000' (by omega), hN _ (acc ++ [.ref T2]) (fun b z e => ?_) upd_same (by rw [List.length_append]; show acc.length + 1 ≤ i + 1; omega)⟩
      rw [upd_ne (ne_of_none e hD)]
      exact Pf.same_upd nT2 _ _ (sT b z e)
abbrev sRI : Stmt := topS 21
theorem scRI : FnScope ["text", "row"] ["text"] (defScope sRI) := ⟨rfl, rfl, rfl, by decide +kernel, rfl, by decide +kernel, by decide +kernel⟩
/-- a text of names -/
def spRI (K : PySem.W.Frag) : Sp := fun vs H Q _ => ∃ (z : Str) (us : List Nat), vs = [.str z] ∧ z.length + 2 ≤ sizeLine ∧ Txt.split z " " = us.map nm ∧ RowOk us ∧ ∀ H' t, Cf.Same H H' → H' t = some (.tup (us.map nmV)) → Q (.ref t) H'
theorem ok_row_in (B : TB mg) (hRw : Cal P w K mg base 2 "is_row" ["value"] (spRw K)) (D : Dfn K mg "row_in" sRI ["text"]) : Cal P w K mg base 3 "row_in" ["text"] (spRI K) := by
  refine D.cal scRI (fun vs H Q E h => ?_) (fun f cdv A outer s H vs Q E hr h => ?_)
  · obtain ⟨z, us, rfl, _⟩ := h; rfl
  · obtain ⟨z, us, rfl, hz, hsp, R, q⟩ := h
    refine ⟨_, pss_cons (ps_if (pt_not (pt_val (pe_callB call_isi (by rfl) B.isi (by decide +kernel) (pa_cons (pv 0) (pa_cons (pe_bltn (v := .ty "str") rfl B.str (by decide +kernel) rfl) pa_nil))))) (pss_one ps_never) pss_nil)
      (pss_cons (ps_set (i := 1) scRI.nd rfl (.inl rfl) (pe_callTy call_tuple_of (by rfl) B.tuple (by decide +kernel) (pa_cons (pe_split (pv 0) pe_str) pa_nil)))
      (pss_one (ps_ret (pe_ifExp (pt_val (pe_cal hRw hr (by decide) (by rfl) (pa_cons (pv 1) pa_nil))) (pv 1) pe_non)))), ?_⟩
    refine ⟨.str z, rfl, .str z, .ty "str", .type "str", .type "str", true, rfl, .ty "str", .base (.str z), kit_ty (by decide +kernel), true, rfl, iteF ?_⟩
    refine ⟨.str z, rfl, ⟨z, rfl⟩, z, " ", rfl, rfl, by decide, hz, fun p np => ?_⟩
    rw [hsp]
    have em : (us.map nm).map V.str = us.map nmV := by rw [List.map_map]; rfl
    refine ⟨p, _, rfl, .inl ⟨.inl (.inl upd_same), fun t nt => ?_⟩⟩
    rw [em]
    rw [em] at nt
    have s1 : Cf.Same H (upd H p (.lst (us.map nmV))) := Pf.same_upd np
    have s2 := s1.trans (Pf.same_upd (o := .tup (us.map nmV)) nt)
    refine ⟨.ref t, rfl, t, us, rfl, .inl (.inl upd_same), R, fun H' sm => ⟨true, rfl, iteT ?_⟩⟩
    exact ⟨.ref t, rfl, q H' t (s2.trans sm) (sm _ _ upd_same)⟩
end
end Pd
end

section
set_option linter.all false
set_option maxRecDepth 100000
set_option maxHeartbeats 2000000
/-! sorted of a tuple of texts; t[::-1], xs[::-1]; len by an own __len__. -/
namespace Pe
open PySem PySem.Spec PyProof.Rows L2
def StrsOut (ss : List Str) (out : Array Value) : Prop := ∃ ys, StrsAre out.toList ys ∧ ys.Perm ss ∧ sortedS ys = true
theorem sort_strs_run {prog : Program} {w : World} {A : Around} {E : Value → Shared → Prop} {s : Shared} {h' : Heap} {p : Addr} {tk : Nat} {vs : List Value} {ss : List Str} {R : Value → Shared → Prop} (ho : h'.get? p = some (seqObj "list" vs.toArray 0)) (hS : StrsAre vs ss) (h64 : vs.length < 64)
    (h : ∀ out, StrsOut ss out → R .none { s with heap := sortedHeap h' p vs out, toks := tk }) : wpAny (model prog w) A (call (.builtin "list.sort") [.ref p]) R E { s with heap := h', toks := tk } :=
  wpAny_call_entry PyProof.Rows.slot_list_sort ⟨_, ho, rfl⟩ PyProof.Rows.entry_list_sort
    (list_sort_treeK strKind_oneLt (s := { s with heap := h', toks := tk }) ho hS.keysOf (fun v₁ v₂ rest e => keyKind_strs (by rw [← e]; exact hS)) h64 fun st' hp hs => ⟨_, rfl, h _ (let ⟨ys, g1, g2, g3⟩ := sorted_out_str hS hp hs; ⟨ys, g1, g2, g3⟩)⟩) (PyProof.Rows.args_list_sort _)
section
variable {X : Cx}
def rSortTS (K : PySem.W.Frag) : List V → Hp → VK → Prop := fun vs H Q => ∃ (a : Addr) (ss : List Str), vs = [V.ref a] ∧ SqT K H a (ss.map V.str) ∧ ss.length < 64 ∧ ∀ (ys : List Str) (p : Addr), ys.Perm ss → sortedS ys = true → H p = none → Q (.ref p) (upd H p (.lst (ys.map V.str)))
theorem cr_sortTS : CallR X (.builtin "sorted") (rSortTS X.K) := by
  intro pins s σ H vs us Q I r h
  obtain ⟨a, ss, rfl, hs, h64, q⟩ := h
  obtain ⟨its, rv, ht, hz⟩ := I.tuple hs
  rw [Vals.ref1 r]
  have hS := rv.strs
  have hl : its.length = ss.length := by have z := rv.length; rw [List.length_map] at z; exact z.symm
  refine sorted_run (vs := its) (G := StrsOut ss) (by rw [sizeLine_eq]; omega) (fun hr => ?_) (fun h' tk _ _ k ho hr => sort_strs_run ho hS (by omega) hr) (fun h' h2 tk c out k k2 ho ⟨ys, a1, a2, a3⟩ => ?_)
  · refine collect_tup ht (by rw [List.size_toArray, sizeLine_eq]; omega) fun h' tk k => ?_
    rw [List.toList_toArray]
    exact hr h' tk k
  · have I1 : Inv X pins σ H { s with heap := h', toks := tk } := I.kept k
    have hlen : (ys.map V.str).length ≤ sizeLine := by rw [List.length_map, a2.length_eq, sizeLine_eq]; omega
    exact ⟨.ref h'.objs.size, upd H h'.objs.size (.lst (ys.map V.str)), I1.laid (t' := tk) k2 (Nat.le_refl _) (show ObjOk X.prog X.w _ _ _ (.lst (ys.map V.str)) from ⟨hlen, out.toList, c, vals_of_strs a1, by rw [Array.toArray_toList]; exact ho⟩), rfl, q ys _ a2 a3 (I1.hok.fresh (Nat.le_refl _))⟩
end
section
variable {prog : Program} {w : World} {A : Around} {E : Value → Shared → Prop} {s : Shared}
theorem rev_places (n : Nat) : Builtin.Slice.slicePlaces ((n : Int) - 1) (-1) (-1) = n := by
  unfold Builtin.Slice.slicePlaces
  rw [if_neg (by decide)]
  by_cases h : (n : Int) - 1 > -1
  · rw [if_pos h]
    have : ((n : Int) - 1 - -1 - 1) / (- -1) + 1 = (n : Int) := by
      rw [show (- -1 : Int) = 1 by decide, Int.ediv_one]; omega
    rw [this]; exact Int.toNat_natCast n
  · rw [if_neg h]
    show 0 = n
    omega
theorem rev_pick (xs : Array Value) : ((List.range xs.size).filterMap fun (k : Nat) => xs[((xs.size : Int) - 1 + (k : Int) * (-1)).toNat]?) = xs.toList.reverse := by
  have e : (fun (k : Nat) => xs[((xs.size : Int) - 1 + (k : Int) * (-1)).toNat]?) = fun k => xs[(fun k => xs.size - 1 - k) k]? := by
    funext k
    have : ((xs.size : Int) - 1 + (k : Int) * (-1)).toNat = xs.size - 1 - k := by omega
    rw [this]
  have e2 : ((fun (i : Nat) => xs[i]?) ∘ fun k => xs.size - 1 - k) = fun k => xs[(fun k => xs.size - 1 - k) k]? := rfl
  rw [e, ← e2, ← List.filterMap_map, PySem.W.krv_range, List.filterMap_reverse, PySem.W.krv_all]
theorem getItem_tuple_rev {t sl : Addr} {items : Array Value} {tk : Tok} {Q : Value → Shared → Prop} (ht : IsTup s.heap t items) (hs : s.heap.IsSliceOf sl .none .none (.int (-1) tk))
    (h : Q (.ref s.heap.objs.size) { s with heap := s.heap.push { cls := .type "tuple", data := .seq items.toList.reverse.toArray } }) (hsz : items.size ≤ sizeLine) : wpAny (model prog w) A (getItem (.ref t) (.ref sl)) Q E s := by
  obtain ⟨os, hos, hcs, hds⟩ := id hs
  have hTs : s.TypeIs (.ref sl) "slice" := ⟨os, hos, hcs⟩
  unfold getItem
  try with_reducible refine wpAny_holding ?_
  first | refine wpAny_bind (wpAny_pure ?_) | skip
  refine wpAny_bind (wpAny_sequenceKey ht.typeIs (by decide) ?_)
  refine wpAny_bind (wpAny_callSpecial?_slot (name := Str.ofString "__getitem__") ht.typeIs PyProof.Rows.slot_tuple_getitem (wpAny_call_entry PyProof.Rows.slot_tuple_getitem ht.typeIs entry_tuple_getitem ?_ (args_tuple_getitem _ _)))
  show wpAny _ _ (Builtin.Tuple.tupleItemsOf (.ref t) >>= _) _ _ s
  refine wpAny_bind (tupleItemsOf_ ht ?_)
  refine wpAny_bind (wpAny_typeOf hTs ?_)
  rw [if_pos (by decide)]
  refine wpAny_bind ?_
  unfold Builtin.Slice.sliceApplied Builtin.Slice.sliceFields
  refine wpAny_bind (wpAny_bind (wpAny_field hos hds (x := .none) rfl (wpAny_bind (wpAny_field hos hds (x := .none) rfl (wpAny_bind (wpAny_field hos hds (x := .int (-1) tk) rfl (wpAny_pure ?_)))))))
  refine wpAny_bind (HT.slicePart_ (.int (-1) tk) ?_)
  show wpAny _ _ (if ((-1 : Int) == 0) = true then _ else _) _ _ s
  rw [if_neg (by decide)]
  refine wpAny_bind (HT.slicePart_ .none (wpAny_bind (HT.slicePart_ .none (wpAny_bind (wpAny_pure ?_)))))
  show wpAny _ _ (pure (((items.size : Int) - 1, -1, Builtin.Slice.slicePlaces ((items.size : Int) - 1) (-1) (-1)))) _ _ s
  rw [rev_places]
  refine wpAny_pure ?_
  show wpAny _ _ (if ((items.size : Int) - 1 == 0 && (-1 : Int) == 1 && items.size == items.size) = true then _ else _) _ _ s
  rw [if_neg (by simp)]
  have e : ((List.range items.size).filterMap fun (k : Nat) => items[((items.size : Int) - 1 + (k : Int) * (-1)).toNat]?).toArray = items.toList.reverse.toArray := by rw [rev_pick]
  rw [e]
  have hz : sizeOk (.seq items.toList.reverse.toArray) := by
    show items.toList.reverse.toArray.size ≤ sizeLine
    rw [List.size_toArray, List.length_reverse, Array.length_toList]
    exact hsz
  first
    | exact wpAny_bind (m := Builtin.Tuple.tupleExact _) (wpAny_newObj_type (wpAny_pure ⟨_, rfl, wpAny_pure h⟩) hz)
    | exact wpAny_bind (m := Builtin.Tuple.tupleExact _) (wpAny_newObj_type (wpAny_bind (wpAny_pure (wpAny_pure ⟨_, rfl, wpAny_pure h⟩))) hz)
    | exact wpAny_bind (wpAny_bind (m := Builtin.Tuple.tupleExact _) (wpAny_newObj_type (wpAny_pure (wpAny_pure ⟨_, rfl, wpAny_pure h⟩)) hz))
end
section
variable {X : Cx} {e : Expr} {te ts : TE} {pos p2 p3 p4 : Pos}
/-- a[::-1], a a tuple or a list -/
def tRev (K : PySem.W.Frag) (te ts : TE) : TE := fun σ H Q => te σ H fun x H1 => ts σ H1 fun z H2 => z = .int (-1) ∧ ∃ (a : Addr) (xs : List V), x = .ref a ∧
  ((SqT K H2 a xs ∧ ∀ p o, H2 p = none → o.dict = none → Q (.ref p) (upd H2 p (.frz o (.tup xs.reverse)))) ∨ (SqL K H2 a xs ∧ ∀ p, H2 p = none → Q (.ref p) (upd H2 p (.lst xs.reverse))))
theorem vals_rev : ∀ {xs : List V} {us : List Value}, Vals xs us → Vals xs.reverse us.reverse
  | _, _, .nil => .nil
  | _, _, .cons h t => by
    rw [List.reverse_cons, List.reverse_cons]
    exact (vals_rev t).append (.cons h .nil)
theorem pe_rev (he : PE X e te) (hs : PE X (.UnaryOp .USub (.Constant (.int 1) 0 p3) p4) ts) : PE X (.Subscript e (.Slice none none (some (.UnaryOp .USub (.Constant (.int 1) 0 p3) p4)) p2) pos) (tRev X.K te ts) := by
  refine ⟨fun pins s σ H Q I h => ?_⟩
  refine Subscript_ (thn (he.run pins s σ H _ I h) fun v s1 ⟨x, H1, I1, r1, q1⟩ => ?_)
  refine wpAny_Slice ?_
  rw [evalPart_none]
  refine wpAny_pure (wpAny_pure ?_)
  refine evalPart_some_step (thn (hs.run pins s1 σ H1 _ I1 q1) fun vz s3 ⟨z, H3, I3, rz, ez, a, xs, ex, q3⟩ => ?_)
  subst ez ex
  obtain rfl : v = Value.ref a := r1
  obtain ⟨tk, rfl⟩ := rz
  have I4 : Inv X pins σ H3 { s3 with heap := s3.heap.push { cls := .type "slice", data := .fields #[.none, .none, .int (-1) tk] } } := I3.kept (t' := s3.toks) fun b ob q => Heap.get?_push_of_some _ q
  have hsl : (s3.heap.push { cls := .type "slice", data := .fields #[.none, .none, .int (-1) tk] }).IsSliceOf s3.heap.objs.size .none .none (.int (-1) tk) := Heap.IsSliceOf.new ..
  generalize hs4 : ({ s3 with heap := s3.heap.push { cls := .type "slice", data := .fields #[.none, .none, .int (-1) tk] } } : Shared) = s4 at I4 ⊢
  have hsl4 : s4.heap.IsSliceOf s3.heap.objs.size .none .none (.int (-1) tk) := by rw [← hs4]; exact hsl
  rcases q3 with ⟨ha, q⟩ | ⟨ha, q⟩
  · obtain ⟨its, rv, ht, hz⟩ := I4.tuple ha
    have hlen := rv.length
    refine tail_any (ops := _) (T := "tuple") ht.typeIs PyProof.Rows.slot_tuple_getitem.lookup (getItem_tuple_rev ht hsl4 ?_ (by rw [List.size_toArray]; omega)) (by with_unfolding_all rfl)
    have hg : (s4.heap.push { cls := .type "tuple", data := .seq its.reverse.toArray }).get? s4.heap.objs.size = some { cls := .type "tuple", data := .seq its.reverse.toArray } := Heap.get?_push_size _ rfl
    rw [List.toList_toArray]
    have J : Inv X pins σ (upd H3 s4.heap.objs.size (.frz { cls := .type "tuple", data := .seq its.reverse.toArray } (.tup xs.reverse))) { s4 with heap := s4.heap.push { cls := .type "tuple", data := .seq its.reverse.toArray } } :=
      I4.laid (t' := s4.toks) (fun b o e => Heap.get?_push_of_some _ e) (Nat.le_refl _) ⟨hg, by rw [List.length_reverse]; exact hz, its.reverse, vals_rev rv, ⟨_, hg, rfl, _, rfl⟩⟩
    exact ⟨.ref s4.heap.objs.size, _, J, rfl, q _ _ (I4.hok.fresh (Nat.le_refl _)) rfl⟩
  · obtain ⟨its, rv, pl, hz⟩ := I4.list ha
    have hlen := rv.length
    refine tail_any (ops := _) (T := "list") pl.isList.typeIs PySem.F.slot_list_getitem.lookup (wpAny_getItem_list_slice pl.isList hsl4 .none .none (.int (-1) tk) (by decide) ?_ (by rw [List.size_toArray]; omega)) (by with_unfolding_all rfl)
    rw [PySem.W.krv_pick, List.toList_toArray]
    have hg : (s4.heap.push { cls := .type "list", data := .seq its.reverse.toArray }).get? s4.heap.objs.size = some { cls := .type "list", data := .seq its.reverse.toArray } := Heap.get?_push_size _ rfl
    have J : Inv X pins σ (upd H3 s4.heap.objs.size (.lst xs.reverse)) { s4 with heap := s4.heap.push { cls := .type "list", data := .seq its.reverse.toArray } } :=
      I4.laid (t' := s4.toks) (fun b o e => Heap.get?_push_of_some _ e) (Nat.le_refl _) ⟨by rw [List.length_reverse]; exact hz, its.reverse, 0, vals_rev rv, hg⟩
    exact ⟨.ref s4.heap.objs.size, _, J, rfl, q _ (I4.hok.fresh (Nat.le_refl _))⟩
end
section
variable {X : Cx} {CX : CXT} {n : Nat} {C g : Addr} {sp : Sp} {E : XK}
/-- len(x) of an instance with slots whose class has a def for it -/
def rLenOwn (C : Addr) (sp : Sp) (E : XK) : List V → Hp → VK → Prop := fun xs H Q => ∃ a dx vs, xs = [V.ref a] ∧ SlX.Slt H a C dx vs ∧ sp [.ref a] H (fun z H' => ∃ m : Nat, z = .int (m : Int) ∧ m < 1000 ∧ Q (.int (m : Int)) H') E
theorem call_lenOwn (hs : PySem.W.findIn X.K (.ref C) "__len__" = some (some (.ref g))) (hf : PySem.W.isFn X.K (.ref g) = true) (F : FnR X.prog X.w X.K X.mg X.base CX n g sp) (hr : Room (n + 2) X.A) (hx : Passes CX X E) : CallR X (.builtin "len") (rLenOwn C sp E) := by
  intro pins s σ H xs us Q I r h
  obtain ⟨a, dx, vs, rfl, hsl, q⟩ := h
  obtain ⟨u, rfl, ru⟩ := r.one
  cases (show u = Value.ref a from ru)
  obtain ⟨sl, od, _, J, _⟩ := SlX.slt_inst I hsl
  have hr1 : Room n X.A.in1 := (show Room (n + 1) X.A.in1 from Room.in1 hr).mono (by omega)
  refine Calls.call_function_entry kind_len plain_len entry_len (args_len1 _) ?_
  unfold Builtin.«len»
  refine wpAny_bind (m := oneArg "len" _) (wpAny_pure ?_)
  refine wpAny_bind (m := callSpecial? (.ref a) (Str.ofString "__len__")) (PySem.W.special_fn I.kIn J hs (beq_iff_eq.mp hf) (wpAny_mono (wpAny_call (SlX.run_at (us := [.ref a]) (ws := [.ref a]) F hr1 I.env0.in1 hx I (.cons rfl .nil) q)) (fun v s' z => ?_) fun _ _ x => x))
  obtain ⟨z', H', I', rz, m, ez, hm, qz⟩ := z
  subst ez
  obtain ⟨t, e⟩ := (show ∃ t, v = Value.int (m : Int) t from rz)
  cases e
  refine wpAny_bind (wpAny_holding (wpAny_pure ?_))
  refine wpAny_bind (wpAny_letGo ?_)
  show wpAny _ _ (if (m : Int) < 0 then _ else _) _ _ _
  rw [if_neg (by omega)]
  show wpAny _ _ (if (m : Int) ≥ 2 ^ 63 then _ else _) _ _ _
  rw [if_neg (by omega)]
  exact wpAny_bind (wpAny_mkInt (wpAny_pure ⟨_, rfl, .int (m : Int), H', I'.tok _, ⟨_, rfl⟩, qz⟩))
end
end Pe
end

section
set_option linter.all false
set_option maxRecDepth 100000
set_option maxHeartbeats 4000000
/-! Order.__init__. -/
namespace Pd
open PySem PySem.Spec PyProof.Rows L2 SlX
/-! ### names, sorted -/
theorem rising_nm : ∀ (is : List Nat) (p : Nat), risingS (nm p) (is.map nm) = true → (p :: is).Pairwise (· ≤ ·)
  | [], p, _ => List.pairwise_singleton _ _
  | x :: is, p, h => by
    have h' : (!ltCps (nm x).cps.toList (nm p).cps.toList && risingS (nm x) (is.map nm)) = true := h
    rw [Bool.and_eq_true] at h'
    have ih := rising_nm is x h'.2
    have hle : p ≤ x := by
      have h1 : ltCps (nm x).cps.toList (nm p).cps.toList = false := by simpa using h'.1
      have h2 : (decide (97 + x < 97 + p) || ((97 + x == 97 + p) && false)) = false := h1
      rw [Bool.and_false, Bool.or_false] at h2
      have := of_decide_eq_false h2
      omega
    refine List.pairwise_cons.mpr ⟨fun y hy => ?_, ih⟩
    rcases List.mem_cons.mp hy with e | hy
    · rw [e]; exact hle
    · exact Nat.le_trans hle ((List.pairwise_cons.mp ih).1 y hy)
theorem sorted_nm {ys : List Str} {us : List Nat} (hp : ys.Perm (us.map nm)) (hs : sortedS ys = true) : ∃ is : List Nat, ys = is.map nm ∧ is.Perm us ∧ is.Pairwise (· ≤ ·) := by
  obtain ⟨is, e, p⟩ := Pe.perm_lift nm hp us rfl
  refine ⟨is, e, p, ?_⟩
  rw [e] at hs
  cases is with
  | nil => exact List.Pairwise.nil
  | cons x r => exact rising_nm r x hs
theorem sorted_same {ys zs : List Str} {us ls : List Nat} (h1 : ys.Perm (us.map nm)) (s1 : sortedS ys = true) (h2 : zs.Perm (ls.map nm)) (s2 : sortedS zs = true) (hp : us.Perm ls) : ys = zs := by
  obtain ⟨is, e1, p1, w1⟩ := sorted_nm h1 s1
  obtain ⟨js, e2, p2, w2⟩ := sorted_nm h2 s2
  have : is = js := ((p1.trans hp).trans p2.symm).eq_of_pairwise (le := (· ≤ ·)) (fun a b _ _ h1 h2 => Nat.le_antisymm h1 h2) w1 w2
  rw [e1, e2, this]
/-! ### lists of texts as data -/
theorem strs_lay : ∀ ys : List Str, (∀ y ∈ ys, PyData.strOk y = true) → PyData.canLayAll0 (ys.map PyData.str) = true
  | [], _ => by simp [PyData.canLayAll0]
  | n :: k, h => by simp [PyData.canLayAll0, PyData.canLay0, strs_lay k (fun y hy => h y (List.mem_cons_of_mem _ hy)), h n List.mem_cons_self]
theorem nm_ok (i : Nat) (h : i < 7) : PyData.strOk (nm i) = true := (by decide +kernel : ∀ i : Nat, i < 7 → PyData.strOk (nm i) = true) i h
theorem strs_depth : ∀ ys : List Str, PyData.depthAll (ys.map PyData.str) ≤ 1
  | [] => by simp [PyData.depthAll]
  | n :: k => by
    have h1 := strs_depth k
    rw [List.map_cons]
    simp only [PyData.depthAll, PyData.depth]
    omega
theorem dp_strs {K : PySem.W.Frag} {H : Hp} : ∀ ys : List Str, DpAll K H (ys.map V.str) (ys.map PyData.str)
  | [] => .nil
  | n :: k => .cons (.str n) (dp_strs k)
theorem strs_shaped (ys : List Str) (h : ∀ y ∈ ys, PyData.strOk y = true) : SeqAt.shaped (.list (ys.map PyData.str)) = true := Pe.shaped_of (by simp only [PyData.canLay0]; exact strs_lay ys h) (by have := strs_depth ys; simp only [PyData.depth]; omega)
theorem strs_eqv (ys : List Str) (h : ∀ y ∈ ys, PyData.strOk y = true) : PyData.eqv (.list (ys.map PyData.str)) (.list (ys.map PyData.str)) = true := SeqAt.eqv_refl _ (by simp only [PyData.canLay0]; exact strs_lay ys h)
/-! ### the class -/
/-- the index in the lower row of each name of the upper row -/
def placesOf (us ls : List Nat) : List Int := us.map fun u => (ls.idxOf u : Int)
def wholeB (p : List Int) : Bool := decide (1 < p.length) && Pf.isW p
/-- what the class's text must have -/
structure OrdT (K : PySem.W.Frag) (mg : Str → Option Value) (C : Addr) : Prop where
  sc : SCls K C
  s0 : ∃ p, Slot1 K C "own_is_whole" p 0
  s1 : ∃ p, Slot1 K C "own_lower" p 1
  s2 : ∃ p, Slot1 K C "own_lower_at" p 2
  s3 : ∃ p, Slot1 K C "own_names" p 3
  s4 : ∃ p, Slot1 K C "own_needless" p 4
  s5 : ∃ p, Slot1 K C "own_places" p 5
  s6 : ∃ p, Slot1 K C "own_text" p 6
  s7 : ∃ p, Slot1 K C "own_upper" p 7
  s8 : ∃ p, Slot1 K C "own_upper_at" p 8
  isi : SIsi K C
  self : PySem.W.kitOne K (.ref C) (.ref C) = some true
  mgC : mg "Order" = some (.ref C)
/-- an order stands at q -/
def IsOrd (K : PySem.W.Frag) (C : Addr) (H : Hp) (q : Addr) (p : List Int) : Prop := ∃ (dx pa ua : Addr) (vs : List (Option V)) (un : List V), Slt H q C dx vs ∧ vs[5]? = some (some (.ref pa)) ∧ Pe.FT H pa (p.map V.int) ∧ vs[0]? = some (some (.bl (wholeB p))) ∧
  vs[7]? = some (some (.ref ua)) ∧ SqT K H ua un ∧ un.length = p.length
/-- all but x and its dict is as it was -/
def Off (x dx : Addr) (H H' : Hp) : Prop := ∀ b u, b ≠ x → b ≠ dx → H b = some u → H' b = some u
/-- the instance under way -/
structure Made (C : Addr) (H Hk : Hp) (x dx : Addr) (vs : List (Option V)) : Prop where
  off : Off x dx H Hk
  sl : Slt Hk x C dx vs
  nx : Hk x ≠ none
  nd : Hk dx ≠ none
theorem slt_same {H H' : Hp} {a C dx : Addr} {vs : List (Option V)} (sm : Cf.Same H H') (h : Slt H a C dx vs) : Slt H' a C dx vs := by
  rcases h with ⟨h1, h2⟩ | ⟨h1, h2⟩
  · exact .inl ⟨sm _ _ h1, h2⟩
  · exact .inr ⟨sm _ _ h1, sm _ _ h2⟩
section
variable {C : Addr} {H Hk : Hp} {x dx : Addr} {vs : List (Option V)}
theorem some_same {H H' : Hp} {b : Addr} (sm : Cf.Same H H') (h : H b ≠ none) : H' b ≠ none := by
  cases e : H b with
  | none => exact absurd e h
  | some u => rw [sm _ _ e]; exact fun z => nomatch z
theorem Made.to (h : Made C H Hk x dx vs) {H' : Hp} (sm : Cf.Same Hk H') : Made C H H' x dx vs := ⟨fun b u h1 h2 e => sm _ _ (h.off b u h1 h2 e), slt_same sm h.sl, some_same sm h.nx, some_same sm h.nd⟩
theorem Made.put (h : Made C H Hk x dx vs) (ne : dx ≠ x) (i : Nat) (y : V) : Made C H (slH Hk x C dx (putS i y vs)) x dx (putS i y vs) :=
  ⟨(fun b u h1 h2 e => by rw [slH_ne h1 h2]; exact h.off b u h1 h2 e), slH_slt ne, (by unfold slH; rw [upd_same]; exact fun z => nomatch z), (by unfold slH; rw [upd_ne ne, upd_same]; exact fun z => nomatch z)⟩
/-- a new object is neither of them -/
theorem Made.fresh (h : Made C H Hk x dx vs) {b : Addr} (hb : Hk b = none) : b ≠ x ∧ b ≠ dx := ⟨fun z => h.nx (z ▸ hb), fun z => h.nd (z ▸ hb)⟩
end
theorem SqT_off {K : PySem.W.Frag} {H H' : Hp} {x dx C a : Addr} {xs : List V} (hx : H x = some (.ins C dx [])) (hd : H dx = some (.own x)) (o : Off x dx H H') (h : SqT K H a xs) : SqT K H' a xs := by
  rcases h with (h | ⟨ob, h⟩) | h
  · exact .inl (.inl (o _ _ (fun z => by rw [z, hx] at h; cases h) (fun z => by rw [z, hd] at h; cases h) h))
  · exact .inl (.inr ⟨ob, o _ _ (fun z => by rw [z, hx] at h; cases h) (fun z => by rw [z, hd] at h; cases h) h⟩)
  · exact .inr h
theorem nms_sum : ∀ us : List Nat, ((us.map nm).map (·.length)).sum = us.length
  | [] => rfl
  | u :: us => by
    have := nms_sum us
    simp only [List.map_cons, List.sum_cons, List.length_cons] at this ⊢
    rw [this]
    show 1 + us.length = _
    omega
theorem row_len (us : List Nat) (h : us.length ≤ 7) : ((us.map nm).map (·.length)).sum + (us.map nm).length * (" " : Str).length ≤ 16777216 ∧ (Txt.join " " (us.map nm)).length ≤ 14 := by
  have e1 : (" " : Str).length = 1 := rfl
  refine ⟨by rw [nms_sum, List.length_map, e1]; omega, ?_⟩
  show (Builtin.Str.glued " " (us.map nm)).length ≤ 14
  rw [size_glued, nms_sum, List.length_map, e1]
  omega
/-- the numbers of a row's names, as a comprehension over enumerate makes them -/
theorem enum_dc {K : PySem.W.Frag} {H1 : Hp} {a D : Addr} {us : List Nat} {fin : Hp → Prop} {step : (Hp → Prop) → V → Hp → Prop} (nd : us.Nodup) (hl : us.length < 1000) (ha : SqT K H1 a (us.map nmV)) (hD : H1 D = none)
    (hfin : ∀ H, Cf.Same H1 H → H D = some (.dK (kvI (fun i => .int (i : Nat)) us)) → fin H)
    (hstep : ∀ (i u : Nat) (H : Hp) (T : Addr) (Nx : Hp → Prop), us[i]? = some u → H T = none →
      (∃ (kvs : List (Key × V)) (k : Key), nmV u = kV k ∧ (upd H T (.tup [.int (i : Nat), nmV u])) D = some (.dK kvs) ∧ kvs.length < sizeLine ∧ Nx (upd (upd H T (.tup [.int (i : Nat), nmV u])) D (.dK (putK kvs k (.int (i : Nat)))))) → step Nx (.ref T) (upd H T (.tup [.int (i : Nat), nmV u]))) :
    ∃ W : Nat → Nat → Hp → Prop, (∃ m, W 0 m (upd H1 D (.dK []))) ∧ ∀ (i m : Nat) (H : Hp), W i m H → ((Pe.IteT K a).stop i H ∧ fin H) ∨ ((Pe.IteT K a).go i H ∧ ∃ Nx : Hp → Prop, (∀ H', Nx H' → ∃ m', m' < m ∧ W (i + 1) m' H') ∧ ∀ (x : V) (H' : Hp), (Pe.IteT K a).yld i H x H' → step Nx x H') := by
  have hln : (us.map nmV).length = us.length := List.length_map ..
  refine dc_same (us := us) (f := fun i => .int (i : Nat)) hD (fun H2 sm2 => ⟨_, Cf_SqT sm2 ha, by rw [hln]; exact Nat.le_refl _⟩) (fun i H2 hi sm2 => ⟨_, nmV us[i], Cf_SqT sm2 ha, by rw [List.getElem?_map, List.getElem?_eq_getElem hi]; rfl⟩) hfin
    (fun i u H2 x H3 Nx hu sm2 hd2 hy hN => ?_)
  obtain ⟨T, y, rfl, nT, rfl, hy⟩ := hy
  have ey : y = nmV u := by
    have := hy _ (Cf_SqT sm2 ha)
    rw [List.getElem?_map, hu] at this
    exact (Option.some.inj this).symm
  subst ey
  have sT := Pf.same_upd (o := .tup [.int (i : Nat), nmV u]) nT
  exact hstep i u H2 T Nx hu nT (dacc_ok nd hl hD (sT _ _ hd2) hu (sm2.trans sT) hN)
section
variable {P : Program} {w : World} {K : PySem.W.Frag} {mg : Str → Option Value} {base : Heap}
abbrev sOI : Stmt := inClass (topS 23) 1
abbrev NOI : List Str := ["self", "upper", "lower", "index", "name"]
theorem scOI : FnScope NOI ["self", "upper", "lower"] (defScope sOI) := ⟨rfl, rfl, rfl, by decide +kernel, rfl, by decide +kernel, by decide +kernel⟩
def spOI (K : PySem.W.Frag) (C : Addr) : Sp := fun vs H Q _ => ∃ (x dx ua la : Addr) (us ls : List Nat), vs = [.ref x, .ref ua, .ref la] ∧ dx ≠ x ∧ H x = some (.ins C dx []) ∧ H dx = some (.own x) ∧ SqT K H ua (us.map nmV) ∧ SqT K H la (ls.map nmV) ∧ RowOk us ∧ RowOk ls ∧ us.Perm ls ∧
  ∀ H', (∀ b u, b ≠ x → b ≠ dx → H b = some u → H' b = some u) → IsOrd K C H' x (placesOf us ls) → Q .non H'
theorem ok_ord_init {C f : Addr} {fd : FuncData} (B : TB mg) (T : OrdT K mg C) (hRw : Cal P w K mg base 2 "is_row" ["value"] (spRw K)) (hBE : Cal P w K mg base 1 "block_ends" ["places"] (Pf.spBE K)) (hNI : Cal P w K mg base 1 "needless_in" ["upper", "places"] (spNI K))
    (F : Fun K "__init__" "Order.__init__" sOI f fd) : FnOk P w K mg base CX0 3 f fd ["self", "upper", "lower"] (spOI K C) := by
  obtain ⟨p0, S0⟩ := T.s0
  obtain ⟨p1, S1⟩ := T.s1
  obtain ⟨p2, S2⟩ := T.s2
  obtain ⟨p3, S3⟩ := T.s3
  obtain ⟨p4, S4⟩ := T.s4
  obtain ⟨p5, S5⟩ := T.s5
  obtain ⟨p6, S6⟩ := T.s6
  obtain ⟨p7, S7⟩ := T.s7
  obtain ⟨p8, S8⟩ := T.s8
  refine F.ok scOI (fun vs H Q E h => ?_) (fun cdv A outer s H vs Q E hr h => ?_)
  · obtain ⟨x, dx, ua, la, us, ls, rfl, _⟩ := h; rfl
  · obtain ⟨x, dx, ua, la, us, ls, rfl, hne, hx, hdx, hua, hla, RU, RL, hperm, q⟩ := h
    have hu1 : (A.deeper (envOfC "Order.__init__" (defScope sOI) s.heap.objs.size f cdv)).units + 1 < cLine := by have := hr.units; omega
    refine ⟨_, pss_cons (ps_if (PW.pt (pw_or (pt_not (pt_val (pe_cal hRw hr (by decide) (by rfl) (pa_cons (pv 1) pa_nil)))) (pw_or (pt_not (pt_val (pe_cal hRw hr (by decide) (by rfl) (pa_cons (pv 2) pa_nil))))
          (pw_or1 (pt_cmpR (op_neD hr.units) (pe_callB Pe.cr_sortTS (by rfl) B.sorted (by decide +kernel) (pa_cons (pv 1) pa_nil)) (pe_callB Pe.cr_sortTS (by rfl) B.sorted (by decide +kernel) (pa_cons (pv 2) pa_nil)) (nomark _)))))) (pss_one ps_never) pss_nil)
      (pss_cons (ps_sl (pv 0) (pv 1))
      (pss_cons (ps_sl (pv 0) (pv 2))
      (pss_cons (ps_sl (pv 0) (pe_callTy call_tuple_of (by rfl) B.tuple (by decide +kernel) (pa_cons (pe_callB Pe.cr_sortTS (by rfl) B.sorted (by decide +kernel) (pa_cons (pv 1) pa_nil)) pa_nil)))
      (pss_cons (ps_sl (pv 0) (pe_dc (own := [("index", 3), ("name", 4)]) (g := gTup K 2 (gCons (gName 3) (gCons (gName 4) gNil))) (tt := tYes) rfl scOI.nd (Pe.pi_enumT (by rfl) B.enumerate (pa_cons (pv 1) pa_nil)) (blkOk_by (N := NOI) (sc := defScope sOI) (by decide +kernel))
          (fun _ _ _ _ _ => pg_tup rfl (pgs_cons (pg_name (i := 3) scOI.nd rfl (Or.inl rfl)) (pgs_cons (pg_name (i := 4) scOI.nd rfl (Or.inl rfl)) pgs_nil))) (fun _ _ _ _ _ => pts_nil) (fun _ _ _ _ _ => pv 4) (fun _ _ _ _ _ => pv 3)))
      (pss_cons (ps_sl (pv 0) (pe_dc (own := [("index", 3), ("name", 4)]) (g := gTup K 2 (gCons (gName 3) (gCons (gName 4) gNil))) (tt := tYes) rfl scOI.nd (Pe.pi_enumT (by rfl) B.enumerate (pa_cons (pv 2) pa_nil)) (blkOk_by (N := NOI) (sc := defScope sOI) (by decide +kernel))
          (fun _ _ _ _ _ => pg_tup rfl (pgs_cons (pg_name (i := 3) scOI.nd rfl (Or.inl rfl)) (pgs_cons (pg_name (i := 4) scOI.nd rfl (Or.inl rfl)) pgs_nil))) (fun _ _ _ _ _ => pts_nil) (fun _ _ _ _ _ => pv 4) (fun _ _ _ _ _ => pv 3)))
      (pss_cons (ps_sl (pv 0) (pe_callTy Pe.call_tupleF (by rfl) B.tuple (by decide +kernel) (pa_cons
          (pe_lc (own := [("name", 4)]) (g := gName 4) (tt := tYes) (te := tDGet (tSl K (tVar 0) "own_lower_at") (tVar 4)) rfl scOI.nd (pi_tup (pv 1)) (blkOk_by (N := NOI) (sc := defScope sOI) (by decide +kernel)) (fun _ _ _ _ _ => pg_name (i := 4) scOI.nd rfl (Or.inl rfl)) (fun _ _ _ _ _ => pts_nil)
            (fun _ _ _ _ _ => pe_dget hu1 (pe_sl (pv 0)) (pv 4) (fun _ _ => rfl))) pa_nil)))
      (pss_cons (ps_sl (pv 0) (pe_and (pe_cmpR op_gt (pe_callB call_len_seq (by rfl) B.len PySem.boot_len (pa_cons (pv 1) pa_nil)) pe_int (nomark _))
          (pe_one (pe_cmpR op_eq (pe_callB call_len_seq (by rfl) B.len PySem.boot_len (pa_cons (pe_cal hBE hr (by decide) (by rfl) (pa_cons (pe_sl (pv 0)) pa_nil)) pa_nil)) pe_int (nomark _)))))
      (pss_cons (ps_sl (pv 0) (pe_cal hNI hr (by decide) (by rfl) (pa_cons (pv 1) (pa_cons (pe_sl (pv 0)) pa_nil))))
      (pss_one (ps_sl (pv 0) (pe_op op_add_str (pe_op op_add_str (pe_join pe_str (pv 1)) pe_str) (pe_join pe_str (pv 2))))))))))))), ?_⟩
    have M0 : Made C H H x dx [] := ⟨fun _ _ _ _ e => e, .inl ⟨hx, rfl⟩, (by rw [hx]; exact fun z => nomatch z), (by rw [hdx]; exact fun z => nomatch z)⟩
    have hU : ∀ {Hk : Hp}, Off x dx H Hk → SqT K Hk ua (us.map nmV) := fun o => SqT_off hx hdx o hua
    have hL : ∀ {Hk : Hp}, Off x dx H Hk → SqT K Hk la (ls.map nmV) := fun o => SqT_off hx hdx o hla
    have hlu : us.length = ls.length := hperm.length_eq
    have hU2 := RU.two
    have hU7 := RU.few
    have emU : us.map nmV = (us.map nm).map V.str := by rw [List.map_map]; rfl
    have emL : ls.map nmV = (ls.map nm).map V.str := by rw [List.map_map]; rfl
    refine ⟨.ref ua, rfl, ua, us, rfl, hua, RU, fun H1 s1 => ⟨true, rfl, iteF ?_⟩⟩
    have M1 := M0.to s1
    refine ⟨.ref la, rfl, la, ls, rfl, hL M1.off, RL, fun H2 s2 => ⟨true, rfl, iteF ?_⟩⟩
    have M2 := M1.to s2
    refine ⟨.ref ua, rfl, ua, us.map nm, rfl, by rw [← emU]; exact hU M2.off, by rw [List.length_map]; omega, fun ys a yp ysd na => ?_⟩
    have M3 := M2.to (Pf.same_upd (o := .lst (ys.map V.str)) na)
    refine ⟨.ref la, rfl, la, ls.map nm, rfl, by rw [← emL]; exact hL M3.off, by rw [List.length_map]; omega, fun zs b zp zsd nb => ?_⟩
    have M4 := M3.to (Pf.same_upd (o := .lst (zs.map V.str)) nb)
    have eyz : ys = zs := sorted_same yp ysd zp zsd hperm
    subst eyz
    have hok : ∀ y ∈ ys, PyData.strOk y = true := fun y hy => by
      obtain ⟨i, hi, rfl⟩ := List.mem_map.mp (yp.mem_iff.mp hy)
      exact nm_ok i (RU.lt i hi)
    refine ⟨.list (ys.map PyData.str), .list (ys.map PyData.str), .lst (.inl (.inl (Pf.same_upd nb _ _ upd_same))) (dp_strs ys), .lst (.inl (.inl upd_same)) (dp_strs ys), strs_shaped _ hok, strs_shaped _ hok, _, rfl, ?_⟩
    rw [strs_eqv _ hok]
    refine iteF ?_
    generalize upd (upd H2 a (.lst (ys.map V.str))) b (.lst (ys.map V.str)) = H4 at M4
    -- own_upper, own_lower
    refine ⟨.ref ua, rfl, .ref x, rfl, x, C, dx, p7, [], 7, rfl, M4.sl, T.sc, S7, ?_⟩
    have M5 := M4.put hne 7 (.ref ua)
    refine ⟨.ref la, rfl, .ref x, rfl, x, C, dx, p1, _, 1, rfl, M5.sl, T.sc, S1, ?_⟩
    have M6 := M5.put hne 1 (.ref la)
    generalize slH (slH H4 x C dx (putS 7 (V.ref ua) [])) x C dx (putS 1 (V.ref la) (putS 7 (V.ref ua) [])) = H6 at M6
    -- own_names
    refine ⟨.ref ua, rfl, ua, us.map nm, rfl, by rw [← emU]; exact hU M6.off, by rw [List.length_map]; omega, fun ks a2 _ _ na2 => ?_⟩
    have M7 := M6.to (Pf.same_upd (o := .lst (ks.map V.str)) na2)
    refine ⟨a2, _, rfl, .inl ⟨.inl (.inl upd_same), fun a3 na3 => ?_⟩⟩
    have M8 := M7.to (Pf.same_upd (o := .tup (ks.map V.str)) na3)
    refine ⟨.ref x, rfl, x, C, dx, p3, _, 3, rfl, M8.sl, T.sc, S3, ?_⟩
    have M9 := M8.put hne 3 (.ref a3)
    generalize slH (upd (upd H6 a2 (.lst (ks.map V.str))) a3 (.tup (ks.map V.str))) x C dx (putS 3 (V.ref a3) (putS 1 (V.ref la) (putS 7 (V.ref ua) []))) = H9 at M9
    -- own_upper_at
    refine ⟨.ref ua, rfl, ua, us.map nmV, rfl, hU M9.off, fun D hD => ?_⟩
    refine enum_dc RU.nd (by omega) (hU M9.off) hD (fun H2 sm2 hl2 => ?_) (fun i u H2 T Nx hu nT hN => ?_)
    case refine_2 =>
      refine ⟨T, [.int (i : Nat), nmV u], rfl, .inl (.inl upd_same), rfl, _, [_], rfl, _, [], rfl, rfl, ?_⟩
      refine ⟨rfl, iteT (B := Nx (upd H2 T (.tup [.int (i : Nat), nmV u]))) ?_⟩
      exact ⟨nmV u, rfl, .int (i : Nat), rfl, hN⟩
    have M10 := M9.to sm2
    refine ⟨.ref x, rfl, x, C, dx, p8, _, 8, rfl, M10.sl, T.sc, S8, ?_⟩
    have M11 := M10.put hne 8 (.ref D)
    have du : slH H2 x C dx (putS 8 (.ref D) (putS 3 (V.ref a3) (putS 1 (V.ref la) (putS 7 (V.ref ua) [])))) D = some (.dK (kvI (fun i => .int (i : Nat)) us)) := (slH_ne (M9.fresh hD).1 (M9.fresh hD).2).trans hl2
    generalize slH H2 x C dx (putS 8 (.ref D) (putS 3 (V.ref a3) (putS 1 (V.ref la) (putS 7 (V.ref ua) [])))) = H11 at M11 du
    -- own_lower_at
    refine ⟨.ref la, rfl, la, ls.map nmV, rfl, hL M11.off, fun D2 hD2 => ?_⟩
    refine enum_dc RL.nd (by omega) (hL M11.off) hD2 (fun H12 sm12 hl12 => ?_) (fun i u H2 T Nx hu nT hN => ?_)
    case refine_2 =>
      refine ⟨T, [.int (i : Nat), nmV u], rfl, .inl (.inl upd_same), rfl, _, [_], rfl, _, [], rfl, rfl, ?_⟩
      refine ⟨rfl, iteT (B := Nx (upd H2 T (.tup [.int (i : Nat), nmV u]))) ?_⟩
      exact ⟨nmV u, rfl, .int (i : Nat), rfl, hN⟩
    have M12 := M11.to sm12
    refine ⟨.ref x, rfl, x, C, dx, p2, _, 2, rfl, M12.sl, T.sc, S2, ?_⟩
    have M13 := M12.put hne 2 (.ref D2)
    have n2 := M11.fresh hD2
    have dl : slH H12 x C dx (putS 2 (.ref D2) (putS 8 (.ref D) (putS 3 (V.ref a3) (putS 1 (V.ref la) (putS 7 (V.ref ua) []))))) D2 = some (.dK (kvI (fun i => .int (i : Nat)) ls)) := (slH_ne n2.1 n2.2).trans hl12
    generalize slH H12 x C dx (putS 2 (.ref D2) (putS 8 (.ref D) (putS 3 (V.ref a3) (putS 1 (V.ref la) (putS 7 (V.ref ua) []))))) = H13 at M13 dl
    -- own_places
    refine ⟨.ref ua, rfl, ua, rfl, ⟨_, hU M13.off⟩, fun D3 hD3 => ?_⟩
    have lnu : (us.map nmV).length = us.length := List.length_map ..
    have lnp : (placesOf us ls).length = us.length := List.length_map ..
    refine lc_tupS (ys := (placesOf us ls).map V.int) hD3 (hU M13.off) (by rw [List.length_map, lnp, lnu]) (fun H14 sm14 hl14 => ?_) (fun i H' z Nx hz sm hd hN => ?_)
    case refine_2 =>
      rw [List.getElem?_map] at hz
      obtain ⟨u, hu, rfl⟩ := Option.map_eq_some_iff.mp hz
      refine ⟨rfl, iteT (B := Nx H') ?_⟩
      have hv : valV (kvI (fun i => .int (i : Nat)) ls) (Sum.inr (nm u)) = some (.int (ls.idxOf u : Nat)) := kvI_val _ (hperm.mem_iff.mp (List.mem_of_getElem? hu))
      refine ⟨.ref x, rfl, x, C, dx, p2, _, 2, .ref D2, rfl, slt_same sm M13.sl, T.sc, S2, rfl, nmV u, rfl, D2, .int (ls.idxOf u : Nat), rfl, by rw [← hv]; exact DGet.k (k := Sum.inr (nm u)) (sm _ _ dl), ?_⟩
      refine acc_ok hD3 hd (by rw [List.getElem?_map]; unfold placesOf; rw [List.getElem?_map, hu]; rfl) (by have := (List.getElem?_eq_some_iff.mp hu).1; omega) sm hN
    have M14 := M13.to sm14
    refine ⟨D3, _, rfl, .inl (.inl hl14), fun pa o na4 od => ?_⟩
    have M15 := M14.to (Pf.same_upd (o := HO.frz o (.tup ((placesOf us ls).map V.int))) na4)
    have d15 := Pf.same_upd (o := HO.frz o (.tup ((placesOf us ls).map V.int))) na4 _ _ (sm14 _ _ dl)
    refine ⟨.ref x, rfl, x, C, dx, p5, _, 5, rfl, M15.sl, T.sc, S5, ?_⟩
    have M16 := M15.put hne 5 (.ref pa)
    have np := M14.fresh na4
    have d16 := (slH_ne (vs := putS 5 (.ref pa) (putS 2 (.ref D2) (putS 8 (.ref D) (putS 3 (V.ref a3) (putS 1 (V.ref la) (putS 7 (V.ref ua) [])))))) (C := C) n2.1 n2.2).trans d15
    have f16 := (slH_ne (H := upd H14 pa (HO.frz o (.tup ((placesOf us ls).map V.int)))) (vs := putS 5 (.ref pa) (putS 2 (.ref D2) (putS 8 (.ref D) (putS 3 (V.ref a3) (putS 1 (V.ref la) (putS 7 (V.ref ua) [])))))) (C := C) np.1 np.2).trans upd_same
    generalize slH (upd H14 pa (HO.frz o (.tup ((placesOf us ls).map V.int)))) x C dx (putS 5 (.ref pa) (putS 2 (.ref D2) (putS 8 (.ref D) (putS 3 (V.ref a3) (putS 1 (V.ref la) (putS 7 (V.ref ua) [])))))) = H16 at M16 d16 f16
    have F16 : Pe.FT H16 pa ((placesOf us ls).map V.int) := ⟨o, f16, od⟩
    -- own_is_whole
    have hplU : ∀ {Hk : Hp}, Off x dx H Hk → SqT K Hk ua ((us.map nm).map V.str) := fun o => by rw [← emU]; exact hU o
    have hplL : ∀ {Hk : Hp}, Off x dx H Hk → SqT K Hk la ((ls.map nm).map V.str) := fun o => by rw [← emL]; exact hL o
    have hgt : decide ((1 : Int) < ((us.map nmV).length : Int)) = true := decide_eq_true (by rw [lnu]; omega)
    refine ⟨.ref ua, rfl, ua, us.map nmV, rfl, .inr (hU M16.off), ((us.map nmV).length : Int), 1, rfl, rfl, true, congrArg V.bl hgt, iteT ?_⟩
    refine ⟨.ref x, rfl, x, C, dx, p5, _, 5, .ref pa, rfl, M16.sl, T.sc, S5, rfl, pa, placesOf us ls, rfl, F16.sqT, by rw [lnp]; omega, fun H17 bo sm17 nbo hbo => ?_⟩
    refine ⟨bo, _, rfl, .inl (.inl (.inl hbo)), rfl, ?_⟩
    have M17 := M16.to sm17
    have d17 := sm17 _ _ d16
    have F17 : Pe.FT H17 pa ((placesOf us ls).map V.int) := ⟨o, sm17 _ _ f16, od⟩
    have hw : decide (V.int (((Pf.blockEnds (placesOf us ls)).map V.int).length : Int) = V.int 1) = wholeB (placesOf us ls) := by
      rw [dec_int, List.length_map]
      have h1 : decide (1 < (placesOf us ls).length) = true := decide_eq_true (by rw [lnp]; omega)
      unfold wholeB Pf.isW
      rw [h1, Bool.true_and, Bool.eq_iff_iff, beq_iff_eq, decide_eq_true_iff]
      omega
    refine ⟨.ref x, rfl, x, C, dx, p0, _, 0, rfl, M17.sl, T.sc, S0, ?_⟩
    rw [hw]
    have M18 := M17.put hne 0 (.bl (wholeB (placesOf us ls)))
    have d18 := (slH_ne (vs := putS 0 (.bl (wholeB (placesOf us ls))) (putS 5 (.ref pa) (putS 2 (.ref D2) (putS 8 (.ref D) (putS 3 (V.ref a3) (putS 1 (V.ref la) (putS 7 (V.ref ua) []))))))) (C := C) n2.1 n2.2).trans d17
    have F18 : Pe.FT (slH H17 x C dx (putS 0 (.bl (wholeB (placesOf us ls))) (putS 5 (.ref pa) (putS 2 (.ref D2) (putS 8 (.ref D) (putS 3 (V.ref a3) (putS 1 (V.ref la) (putS 7 (V.ref ua) [])))))))) pa ((placesOf us ls).map V.int) := ⟨o, (slH_ne np.1 np.2).trans (sm17 _ _ f16), od⟩
    generalize slH H17 x C dx (putS 0 (.bl (wholeB (placesOf us ls))) (putS 5 (.ref pa) (putS 2 (.ref D2) (putS 8 (.ref D) (putS 3 (V.ref a3) (putS 1 (V.ref la) (putS 7 (V.ref ua) []))))))) = H18 at M18 d18 F18
    -- own_needless
    refine ⟨.ref ua, rfl, .ref x, rfl, x, C, dx, p2, _, 2, .ref D2, rfl, M18.sl, T.sc, S2, rfl, ua, D2, us, _, rfl, hU M18.off, RU, d18, fun u hu => ⟨((ls.idxOf u : Nat) : Int), kvI_val _ (hperm.mem_iff.mp hu)⟩, fun H19 nd sm19 => ?_⟩
    have M19 := M18.to sm19
    have F19 : Pe.FT H19 pa ((placesOf us ls).map V.int) := let ⟨o, e, d⟩ := F18; ⟨o, sm19 _ _ e, d⟩
    refine ⟨.ref x, rfl, x, C, dx, p4, _, 4, rfl, M19.sl, T.sc, S4, ?_⟩
    have M20 := M19.put hne 4 (.ref nd)
    have F20 : Pe.FT (slH H19 x C dx (putS 4 (.ref nd) (putS 0 (.bl (wholeB (placesOf us ls))) (putS 5 (.ref pa) (putS 2 (.ref D2) (putS 8 (.ref D) (putS 3 (V.ref a3) (putS 1 (V.ref la) (putS 7 (V.ref ua) []))))))))) pa ((placesOf us ls).map V.int) :=
      let ⟨o, e, d⟩ := F19; ⟨o, (slH_ne np.1 np.2).trans e, d⟩
    generalize slH H19 x C dx (putS 4 (.ref nd) (putS 0 (.bl (wholeB (placesOf us ls))) (putS 5 (.ref pa) (putS 2 (.ref D2) (putS 8 (.ref D) (putS 3 (V.ref a3) (putS 1 (V.ref la) (putS 7 (V.ref ua) [])))))))) = H20 at M20 F20
    -- own_text
    refine ⟨⟨_, rfl⟩, .ref ua, rfl, " ", ua, us.map nm, rfl, rfl, .inr (hplU M20.off), (row_len us RU.few).1, ?_⟩
    refine ⟨_, _, rfl, rfl, Nat.le_trans (Nat.add_le_add_right (row_len us RU.few).2 3) (by decide), ?_⟩
    refine ⟨⟨_, rfl⟩, .ref la, rfl, " ", la, ls.map nm, rfl, rfl, .inr (hplL M20.off), (row_len ls RL.few).1, ?_⟩
    refine ⟨_, _, rfl, rfl, ?_, ?_⟩
    · rw [Str.length_append]
      exact Nat.le_trans (Nat.add_le_add (Nat.add_le_add_right (row_len us RU.few).2 3) (row_len ls RL.few).2) (by decide)
    refine ⟨.ref x, rfl, x, C, dx, p6, _, 6, rfl, M20.sl, T.sc, S6, ?_⟩
    have M21 := M20.put hne 6 (.str (Txt.join " " (us.map nm) ++ " / " ++ Txt.join " " (ls.map nm)))
    refine q _ M21.off ⟨dx, pa, ua, _, us.map nmV, M21.sl, rfl, ?_, rfl, rfl, hU M21.off, by rw [lnu, lnp]⟩
    exact let ⟨o, e, d⟩ := F20; ⟨o, (slH_ne np.1 np.2).trans e, d⟩
end
end Pd
end

section
set_option linter.all false
set_option maxRecDepth 100000
set_option maxHeartbeats 4000000
/-! order_of_places. -/
namespace Pd
open PySem PySem.Spec PyProof.Rows L2 SlX
/-! ### the rows of places -/
theorem perm_of_sub : ∀ {l1 l2 : List Nat}, l1.Nodup → (∀ x ∈ l1, x ∈ l2) → l2.length ≤ l1.length → l1.Perm l2
  | [], l2, _, _, h => by
    cases l2 with
    | nil => exact List.Perm.refl _
    | cons a l => simp at h
  | a :: l1, l2, nd, hs, h => by
    have ha := hs a List.mem_cons_self
    have ih := perm_of_sub (l1 := l1) (l2 := l2.erase a) (List.nodup_cons.mp nd).2 (fun x hx => (List.mem_erase_of_ne (fun (e : x = a) => (List.nodup_cons.mp nd).1 (by rw [← e]; exact hx))).mpr (hs x (List.mem_cons_of_mem _ hx)))
      (by rw [List.length_erase_of_mem ha]; simp at h; omega)
    exact (ih.cons a).trans (List.perm_cons_erase ha).symm
theorem idxOf_at {α : Type} [BEq α] [LawfulBEq α] {l : List α} {k : Nat} {u : α} (nd : l.Nodup) (h : l[k]? = some u) : l.idxOf u = k := by
  have hk := (List.getElem?_eq_some_iff.mp h).1
  have hm : u ∈ l := List.mem_of_getElem? h
  have hlt : l.idxOf u < l.length := List.idxOf_lt_length_iff.mpr hm
  have e : l[l.idxOf u]? = some u := by rw [List.getElem?_eq_getElem hlt, List.getElem_idxOf hlt]
  exact (List.getElem?_inj hlt nd).mp (e.trans h.symm)
/-- the places of an order of at most seven names -/
def GoodP (p : List Int) : Prop := 2 ≤ p.length ∧ p.length ≤ 7 ∧ p.Perm (Pf.rangeI p.length)
theorem rangeI_nd (n : Nat) : (Pf.rangeI n).Nodup := by
  unfold Pf.rangeI
  exact List.Pairwise.map _ (fun a b h e => h (by exact_mod_cast e)) (List.nodup_range)
theorem mem_rangeI {n : Nat} {x : Int} : x ∈ Pf.rangeI n ↔ ∃ k : Nat, k < n ∧ x = k := by
  unfold Pf.rangeI
  rw [List.mem_map]
  exact ⟨fun ⟨k, h, e⟩ => ⟨k, List.mem_range.mp h, e.symm⟩, fun ⟨k, h, e⟩ => ⟨k, List.mem_range.mpr h, e.symm⟩⟩
theorem GoodP.nd {p : List Int} (h : GoodP p) : p.Nodup := h.2.2.nodup_iff.mpr (rangeI_nd _)
theorem GoodP.at {p : List Int} (h : GoodP p) {i : Nat} (hi : i < p.length) : ∃ k : Nat, k < p.length ∧ p[i] = k := mem_rangeI.mp (h.2.2.mem_iff.mp (List.getElem_mem hi))
theorem GoodP.mem {p : List Int} (h : GoodP p) {q : Nat} (hq : q < p.length) : (q : Int) ∈ p := h.2.2.mem_iff.mpr (mem_rangeI.mpr ⟨q, hq, rfl⟩)
/-- the lower row -/
def lowsOf (p : List Int) : List Nat := (List.range p.length).map fun (q : Nat) => p.idxOf (q : Int)
theorem lows_len (p : List Int) : (lowsOf p).length = p.length := by unfold lowsOf; rw [List.length_map, List.length_range]
theorem lows_at {p : List Int} {q : Nat} (hq : q < p.length) : (lowsOf p)[q]? = some (p.idxOf (q : Int)) := by
  unfold lowsOf
  rw [List.getElem?_map, List.getElem?_range hq]; rfl
theorem lows_nd {p : List Int} (h : GoodP p) : (lowsOf p).Nodup := by
  unfold lowsOf
  refine List.pairwise_map.mpr ((List.pairwise_iff_getElem (R := fun a b : Nat => p.idxOf (a : Int) ≠ p.idxOf (b : Int))).mpr fun i j hi hj hij => ?_)
  rw [List.length_range] at hi hj
  rw [List.getElem_range, List.getElem_range]
  intro e
  have hi2 : p.idxOf (i : Int) < p.length := List.idxOf_lt_length_iff.mpr (h.mem hi)
  have hj2 : p.idxOf (j : Int) < p.length := List.idxOf_lt_length_iff.mpr (h.mem hj)
  have e1 : p[p.idxOf (i : Int)] = (i : Int) := List.getElem_idxOf hi2
  have e2 : p[p.idxOf (j : Int)] = (j : Int) := List.getElem_idxOf hj2
  have e3 : p[p.idxOf (i : Int)] = p[p.idxOf (j : Int)] := by congr 1
  rw [e1, e2] at e3
  omega
theorem lows_perm {p : List Int} (h : GoodP p) : (List.range p.length).Perm (lowsOf p) := by
  refine (perm_of_sub (lows_nd h) (fun x hx => ?_) (by rw [lows_len, List.length_range]; exact Nat.le_refl _)).symm
  unfold lowsOf at hx
  obtain ⟨q, hq, rfl⟩ := List.mem_map.mp hx
  exact List.mem_range.mpr (List.idxOf_lt_length_iff.mpr (h.mem (List.mem_range.mp hq)))
theorem rows_places {p : List Int} (h : GoodP p) : placesOf (List.range p.length) (lowsOf p) = p := by
  unfold placesOf
  refine List.ext_getElem (by rw [List.length_map, List.length_range]) fun i h1 h2 => ?_
  rw [List.getElem_map, List.getElem_range]
  obtain ⟨k, hk, e⟩ := h.at h2
  have e1 : p.idxOf (k : Int) = i := idxOf_at h.nd (by rw [List.getElem?_eq_getElem h2, e])
  rw [e]
  exact congrArg Nat.cast (idxOf_at (lows_nd h) (by rw [lows_at hk, e1]))
theorem rowOk_range {n : Nat} (h2 : 2 ≤ n) (h7 : n ≤ 7) : RowOk (List.range n) := ⟨fun u hu => by have := List.mem_range.mp hu; omega, List.nodup_range, by rw [List.length_range]; exact h2, by rw [List.length_range]; exact h7⟩
theorem rowOk_lows {p : List Int} (h : GoodP p) : RowOk (lowsOf p) := ⟨fun u hu => by
  have := List.mem_range.mp ((lows_perm h).mem_iff.mpr hu)
  have := h.2.1
  omega, lows_nd h, by rw [lows_len]; exact h.1, by rw [lows_len]; exact h.2.1⟩
theorem ixN_here {n j : Nat} (hj : j < n) : ixN n (j : Int) = some j := by
  unfold ixN
  rw [if_pos (by omega), if_pos (by omega)]
  rfl
/-- the lower row when i places are written -/
def stepL (p : List Int) (i : Nat) : List V := (List.range p.length).map fun (q : Nat) => if p.idxOf (q : Int) < i then nmV (p.idxOf (q : Int)) else nmV q
theorem stepL_len (p : List Int) (i : Nat) : (stepL p i).length = p.length := by unfold stepL; rw [List.length_map, List.length_range]
theorem stepL_at {p : List Int} {i q : Nat} (hq : q < p.length) : (stepL p i)[q]? = some (if p.idxOf (q : Int) < i then nmV (p.idxOf (q : Int)) else nmV q) := by
  unfold stepL
  rw [List.getElem?_map, List.getElem?_range hq]; rfl
theorem stepL_0 (p : List Int) : stepL p 0 = (List.range p.length).map nmV := by
  unfold stepL
  exact List.map_congr_left fun q _ => by rw [if_neg (Nat.not_lt_zero _)]
theorem stepL_n {p : List Int} (h : GoodP p) : stepL p p.length = (lowsOf p).map nmV := by
  unfold stepL lowsOf
  rw [List.map_map]
  exact List.map_congr_left fun q hq => by rw [if_pos (List.idxOf_lt_length_iff.mpr (h.mem (List.mem_range.mp hq)))]; rfl
theorem stepL_step {p : List Int} (h : GoodP p) {i k : Nat} (hi : i < p.length) (e : p[i] = (k : Int)) : (stepL p i).set k (nmV i) = stepL p (i + 1) := by
  have e1 : p.idxOf (k : Int) = i := idxOf_at h.nd (by rw [List.getElem?_eq_getElem hi, e])
  refine List.ext_getElem? fun q => ?_
  by_cases h2 : q < p.length
  case neg => rw [List.getElem?_eq_none (by rw [List.length_set, stepL_len]; omega), List.getElem?_eq_none (by rw [stepL_len]; omega)]
  rw [List.getElem?_set, stepL_len, stepL_at h2, stepL_at h2]
  by_cases hq : k = q
  · subst hq
    rw [if_pos rfl, if_pos h2, e1, if_pos (Nat.lt_succ_self i)]
  · rw [if_neg hq]
    have hne : p.idxOf (q : Int) ≠ i := fun z => hq (by
      have hj2 : p.idxOf (q : Int) < p.length := List.idxOf_lt_length_iff.mpr (h.mem h2)
      have e2 : p[p.idxOf (q : Int)] = (q : Int) := List.getElem_idxOf hj2
      have e3 : p[p.idxOf (q : Int)] = p[i] := by congr 1
      rw [e2, e] at e3
      omega)
    by_cases hlt : p.idxOf (q : Int) < i
    · rw [if_pos hlt, if_pos (by omega)]
    · rw [if_neg hlt, if_neg (by omega)]
section
variable {P : Program} {w : World} {K : PySem.W.Frag} {mg : Str → Option Value} {base : Heap}
/-- the class can be made -/
def OrdM (P : Program) (w : World) (K : PySem.W.Frag) (mg : Str → Option Value) (base : Heap) (C : Addr) : Prop := ∃ (f : Addr) (fd : FuncData), Mk K C f ∧ FnOk P w K mg base CX0 3 f fd ["self", "upper", "lower"] (spOI K C) ∧ Binds K fd ["self", "upper", "lower"] []
abbrev sOP : Stmt := topS 26
abbrev NOP : List Str := ["places", "upper", "lower", "name", "place", "index"]
theorem scOP : FnScope NOP ["places"] (defScope sOP) := ⟨rfl, rfl, rfl, by decide +kernel, rfl, by decide +kernel, by decide +kernel⟩
theorem ok_order_of_places {C : Addr} (B : TB mg) (T : OrdT K mg C) (M : OrdM P w K mg base C) (hNN : Cal P w K mg base 4 "nth_name" ["index"] spNN) (D : Dfn K mg "order_of_places" sOP ["places"]) :
    Cal P w K mg base 5 "order_of_places" ["places"] (Pf.spOP GoodP (IsOrd K C)) := by
  obtain ⟨fI, fdI, M, F, bI⟩ := M
  refine D.cal scOP (fun vs H Q E h => ?_) (fun f cdv A outer s H vs Q E hr h => ?_)
  · obtain ⟨a, xs, rfl, _⟩ := h; rfl
  · obtain ⟨a, p, rfl, ha, G, q⟩ := h
    refine ⟨_, pss_cons (ps_set (i := 1) scOP.nd rfl (.inl rfl) (pe_callTy call_tuple_of (by rfl) B.tuple (by decide +kernel) (pa_cons
          (pe_lc (own := [("index", 5)]) (g := gName 5) (tt := tYes) rfl scOP.nd (pi_range1 (by rfl) B.range (pa_cons (pe_callB call_len_seq (by rfl) B.len PySem.boot_len (pa_cons (pv 0) pa_nil)) pa_nil)) (blkOk_by (N := NOP) (sc := defScope sOP) (by decide +kernel))
            (fun _ _ _ _ _ => pg_name (i := 5) scOP.nd rfl (Or.inl rfl)) (fun _ _ _ _ _ => pts_nil) (fun _ _ _ _ _ => pe_cal hNN hr (by decide) (by rfl) (pa_cons (pv 5) pa_nil))) pa_nil)))
      (pss_cons (ps_set (i := 2) scOP.nd rfl (.inl rfl) (pe_callTy call_list_of (by rfl) B.list (by decide +kernel) (pa_cons (pv 1) pa_nil)))
      (pss_cons (ps_for PassesOwn.never rfl (RZ.pi_zipA (by rfl) B.zip (pa_cons (pv 1) (pa_cons (pv 0) pa_nil))) (pg_tup rfl (pgs_cons (pg_name (i := 3) scOP.nd rfl (.inl rfl)) (pgs_cons (pg_name (i := 4) scOP.nd rfl (.inl rfl)) pgs_nil)))
          (pss_one (ps_asg (pv 3) (pg_sub (pv 2) (pv 4) set_list))))
      (pss_one (ps_ret (pe_make M F hr (by rfl) T.mgC bI .nil pass0 (pa_cons (pv 1) (pa_cons (pe_callTy call_tuple_of (by rfl) B.tuple (by decide +kernel) (pa_cons (pv 2) pa_nil)) pa_nil))))))), ?_⟩
    have hlp : (p.map V.int).length = p.length := List.length_map ..
    have h2 := G.1
    have h7 := G.2.1
    refine ⟨.ref a, rfl, a, p.map V.int, rfl, .inr (.inl (.inl ha)), ((p.map V.int).length : Int), rfl, by rw [hlp]; omega, by rw [hlp]; omega, fun D hD => ?_⟩
    refine lc_same (n := p.length) (ys := (List.range p.length).map nmV) hD (by rw [List.length_map, List.length_range]) (fun H' _ => by show ((p.map V.int).length : Int).toNat ≤ p.length; rw [hlp]; omega) (fun i H' hi _ => by show i < ((p.map V.int).length : Int).toNat; rw [hlp]; omega) (fun H1 sm1 hl1 => ?_)
      (fun i H' x H'' Nx hi sm hd hy hN => ?_)
    case refine_2 =>
      obtain ⟨rfl, rfl⟩ := hy
      refine ⟨rfl, iteT (B := Nx H'') ?_⟩
      refine ⟨.int (0 + (i : Int)), rfl, i, by rw [Int.zero_add]; rfl, by omega, fun H3 sm3 => ?_⟩
      exact acc_ok hD (sm3 _ _ hd) (by rw [List.getElem?_map, List.getElem?_range hi]; rfl) (by omega) (sm.trans sm3) hN
    refine ⟨D, _, rfl, .inl ⟨.inl (.inl hl1), fun ua nua => ?_⟩⟩
    have s2 := sm1.trans (Pf.same_upd (o := .tup ((List.range p.length).map nmV)) nua)
    refine ⟨.ref ua, rfl, ua, _, rfl, .inr (.inl (.inl upd_same)), fun l nl => ?_⟩
    have hl0 : H l = none := by
      cases e : H l with
      | none => rfl
      | some u => rw [s2 _ _ e] at nl; cases nl
    have s3 := s2.trans (Pf.same_upd (o := .lst ((List.range p.length).map nmV)) nl)
    have hul : ua ≠ l := fun z => by rw [← z, upd_same] at nl; cases nl
    have hua3 : (upd (upd H1 ua (.tup ((List.range p.length).map nmV))) l (.lst ((List.range p.length).map nmV))) ua = some (.tup ((List.range p.length).map nmV)) := by rw [upd_ne hul, upd_same]
    refine ⟨.ref ua, rfl, .ref a, rfl, ua, a, (List.range p.length).map nmV, p.map V.int, rfl, .inr ⟨.inl (.inl hua3), .inl (.inl (s3 _ _ ha)), ?_⟩⟩
    have hrl : ((List.range p.length).map nmV).length = p.length := by rw [List.length_map, List.length_range]
    refine for_inv (n := p.length) (fun i σ H' => ∃ y3 y4 y5, σ = [some (.ref a), some (.ref ua), some (.ref l), y3, y4, y5] ∧ Cf.Same H H' ∧ H' ua = some (.tup ((List.range p.length).map nmV)) ∧ H' l = some (.lst (stepL p i)))
      ⟨none, none, none, rfl, s3, hua3, by rw [upd_same, stepL_0]⟩ (fun σ H' hv => ?_) (fun i σ H' hi hv => ?_) (fun i σ H' x H'' Nx hi hv hy hN => ?_)
    · obtain ⟨y3, y4, y5, rfl, sm, hu, hl⟩ := hv
      refine ⟨⟨_, _, .inl (.inl hu), .inl (.inl (sm _ _ ha)), .inl (by rw [hrl]; exact Nat.le_refl _)⟩, ?_⟩
      refine ⟨.ref ua, rfl, .ref l, rfl, l, _, rfl, .inl ⟨.inl (.inl hl), fun la nla => ?_⟩⟩
      intro x dx nx nd hne
      have s4 := sm.trans (Pf.same_upd (o := .tup (stepL p p.length)) nla)
      have nx' : (upd (upd H' la (.tup (stepL p p.length))) dx (.own x)) x = none := by rw [upd_ne hne.symm]; exact nx
      have s5 := Pf.same_upd (o := .own x) nd
      have s6 := s5.trans (Pf.same_upd (o := .ins C dx []) nx')
      refine ⟨x, dx, ua, la, List.range p.length, lowsOf p, rfl, hne, upd_same, by rw [upd_ne hne, upd_same], .inl (.inl (s6 _ _ (Pf.same_upd nla _ _ hu))), ?_, rowOk_range h2 h7, rowOk_lows G, lows_perm G, fun H2 off ho => ⟨rfl, ?_⟩⟩
      · rw [← stepL_n G]
        exact .inl (.inl (s6 _ _ upd_same))
      · rw [rows_places G] at ho
        refine q H2 x (fun b u hb => ?_) ho
        have hb4 := s4 _ _ hb
        exact off b u (ne_of_none hb4 nx) (ne_of_none hb4 nd) (s6 _ _ hb4)
    · obtain ⟨y3, y4, y5, rfl, sm, hu, hl⟩ := hv
      exact ⟨_, _, nmV i, .int p[i], .inl (.inl hu), .inl (.inl (sm _ _ ha)), by rw [List.getElem?_map, List.getElem?_range hi]; rfl, by rw [List.getElem?_map, List.getElem?_eq_getElem hi]; rfl⟩
    · obtain ⟨y3, y4, y5, rfl, sm, hu, hl⟩ := hv
      obtain ⟨T, x1, y1, rfl, nT, rfl, hx1, hy1⟩ := hy
      have ex : x1 = nmV i := by
        have := hx1 _ (.inl (.inl hu))
        rw [List.getElem?_map, List.getElem?_range hi] at this
        exact (Option.some.inj this).symm
      have ey : y1 = .int p[i] := by
        have := hy1 _ (.inl (.inl (sm _ _ ha)))
        rw [List.getElem?_map, List.getElem?_eq_getElem hi] at this
        exact (Option.some.inj this).symm
      subst ex ey
      obtain ⟨k, hk, ek⟩ := G.at hi
      have sT := Pf.same_upd (o := .tup [nmV i, .int p[i]]) nT
      refine ⟨T, _, rfl, .inl (.inl upd_same), rfl, _, [_], rfl, _, [], rfl, rfl, ?_⟩
      refine ⟨nmV i, rfl, .ref l, rfl, .int p[i], rfl, l, stepL p i, p[i], k, rfl, rfl, sT _ _ hl, ?_, ?_⟩
      · rw [stepL_len, ek]
        exact ixN_here hk
      · refine hN _ _ ⟨_, _, _, rfl, fun b z e => ?_, ?_, by rw [upd_same, stepL_step G hi ek]⟩
        · rw [upd_ne (ne_of_none e hl0)]
          exact sT _ _ (sm _ _ e)
        · rw [upd_ne hul]
          exact sT _ _ hu
end
end Pd
end

section
set_option linter.all false
set_option maxRecDepth 100000
set_option maxHeartbeats 4000000
/-! Order.read, places, len; require_whole, require_few, require_two. -/
namespace Pd
open PySem PySem.Spec PyProof.Rows L2 SlX
section
variable {X : Cx} {k : Nat} {C f : Addr} {fd : FuncData} {ps : List Str} {sp : Sp} {x : Str} {e : Expr} {es : List Expr} {tf : TE} {t : TA} {p pos : Pos}
/-- v(..), v a name that holds the class -/
def tMakeV (C : Addr) (sp : Sp) (tf : TE) (t : TA) : TE := fun σ H Q => tf σ H fun v H1 => v = .ref C ∧ tMake C sp [] E0 t σ H1 Q
theorem pe_makeV (M : Mk X.K C f) (F : FnOk X.prog X.w X.K X.mg X.base CX0 k f fd ps sp) (hr : Room (k + 1) X.A) (hf : PE X (.Name x p) tf) (hb : L2.Binds X.K fd ps [])
    (ha : PA X (e :: es) t) (he : starEach (e :: es) X.env = (false, eval e X.env) :: starEach es X.env := by rfl) (hpl : (backTo pos (starEach es X.env)).any (·.1) = false := by rfl) :
    PE X (.Call (.Name x p) (e :: es) [] pos) (tMakeV C sp tf t) := by
  refine ⟨fun pins s σ H Q I h => ?_⟩
  refine wpAny_Call_Name_kw (thn (hf.run pins s σ H _ I h) fun u s0 ⟨y, H0, I0, ry, ey, h⟩ => ?_)
  subst ey
  obtain rfl : u = Value.ref C := ry
  refine PySem.W.callWith_K (h₀ := X.base) I0.ok.mod.kin M.kp (thn (ha.run pos pins s0 σ H0 _ I0 h) fun us s1 ⟨vs, H1, I1, r, q⟩ => ⟨I1.kIn, ?_⟩) he hpl
  exact run_make M F hr hb .nil pass0 I1 r q
end
theorem IsOrd.to {K : PySem.W.Frag} {C : Addr} {H H' : Hp} {q : Addr} {p : List Int} (sm : Cf.Same H H') (h : IsOrd K C H q p) : IsOrd K C H' q p :=
  let ⟨dx, pa, ua, vs, un, h1, h2, ⟨o, h3, h3'⟩, h4, h5, h6, h7⟩ := h
  ⟨dx, pa, ua, vs, un, slt_same sm h1, h2, ⟨o, sm _ _ h3, h3'⟩, h4, h5, Cf_SqT sm h6, h7⟩
section
variable {P : Program} {w : World} {K : PySem.W.Frag} {mg : Str → Option Value} {base : Heap}
abbrev sOR : Stmt := inClass (topS 23) 2
abbrev NOR : List Str := ["cls", "upper", "lower", "first", "second"]
theorem scOR : FnScope NOR ["cls", "upper", "lower"] (defScope sOR) := ⟨rfl, rfl, rfl, by decide +kernel, rfl, by decide +kernel, by decide +kernel⟩
def spOR (K : PySem.W.Frag) (C : Addr) : Sp := fun vs H Q _ => ∃ (z1 z2 : Str) (us ls : List Nat), vs = [.ref C, .str z1, .str z2] ∧ z1.length + 2 ≤ sizeLine ∧ z2.length + 2 ≤ sizeLine ∧ Txt.split z1 " " = us.map nm ∧ Txt.split z2 " " = ls.map nm ∧ RowOk us ∧ RowOk ls ∧ us.Perm ls ∧
  ∀ H' q, Cf.Same H H' → IsOrd K C H' q (placesOf us ls) → Q (.ref q) H'
theorem ok_ord_read {C f : Addr} {fd : FuncData} (B : TB mg) (T : OrdT K mg C) (M : OrdM P w K mg base C) (hRI : Cal P w K mg base 3 "row_in" ["text"] (spRI K)) (F : Fun K "read" "Order.read" sOR f fd) : FnOk P w K mg base CX0 5 f fd ["cls", "upper", "lower"] (spOR K C) := by
  obtain ⟨fI, fdI, M, FI, bI⟩ := M
  refine F.ok scOR (fun vs H Q E h => ?_) (fun cdv A outer s H vs Q E hr h => ?_)
  · obtain ⟨z1, z2, us, ls, rfl, _⟩ := h; rfl
  · obtain ⟨z1, z2, us, ls, rfl, l1, l2, s1, s2, RU, RL, hp, q⟩ := h
    refine ⟨_, pss_cons (ps_par (i := 3) (j := 4) (by rfl) scOR.nd rfl rfl (by decide) rfl rfl (pa_cons (pe_cal hRI hr (by decide) (by rfl) (pa_cons (pv 1) pa_nil)) (pa_cons (pe_cal hRI hr (by decide) (by rfl) (pa_cons (pv 2) pa_nil)) pa_nil)) (by rfl))
      (pss_cons (ps_if (PW.pt (pw_or (pt_cmpR op_isN (pv 3) pe_non (nomark _)) (pw_or1 (pt_cmpR op_isN (pv 4) pe_non (nomark _))))) (pss_one ps_never) pss_nil)
      (pss_one (ps_ret (pe_makeV M FI (hr.mono (by decide)) (pv 0) bI (pa_cons (pv 3) (pa_cons (pv 4) pa_nil)))))), ?_⟩
    refine ⟨.str z1, rfl, z1, us, rfl, l1, s1, RU, fun H1 t1 sm1 h1 => ?_⟩
    refine ⟨.str z2, rfl, z2, ls, rfl, l2, s2, RL, fun H2 t2 sm2 h2 => ?_⟩
    refine ⟨_, _, rfl, ?_⟩
    refine ⟨.ref t1, rfl, rfl, false, rfl, iteF ?_⟩
    refine ⟨.ref t2, rfl, rfl, false, rfl, iteF ?_⟩
    refine ⟨.ref C, rfl, rfl, .ref t1, rfl, .ref t2, rfl, ?_⟩
    intro x dx nx nd hne
    have s5 := Pf.same_upd (o := .own x) nd
    have nx' : (upd H2 dx (.own x)) x = none := by rw [upd_ne hne.symm]; exact nx
    have s6 := s5.trans (Pf.same_upd (o := .ins C dx []) nx')
    have s12 := sm1.trans sm2
    refine ⟨x, dx, t1, t2, us, ls, rfl, hne, upd_same, by rw [upd_ne hne, upd_same], .inl (.inl (s6 _ _ (sm2 _ _ h1))), .inl (.inl (s6 _ _ h2)), RU, RL, hp, fun H3 off ho => ⟨rfl, ?_⟩⟩
    refine q H3 x (fun b u hb => ?_) ho
    have hb4 := s12 _ _ hb
    exact off b u (ne_of_none hb4 nx) (ne_of_none hb4 nd) (s6 _ _ hb4)
/-! ### the property and the length -/
abbrev sPl : Stmt := inClass (topS 23) 7
theorem scPl : FnScope ["self"] ["self"] (defScope sPl) := ⟨rfl, rfl, rfl, by decide +kernel, rfl, by decide +kernel, by decide +kernel⟩
def spPl (K : PySem.W.Frag) (C : Addr) : Sp := fun vs H Q _ => ∃ (q : Addr) (p : List Int), vs = [.ref q] ∧ IsOrd K C H q p ∧ ∀ pa, Pe.FT H pa (p.map V.int) → Q (.ref pa) H
theorem ok_ord_places {C f : Addr} {fd : FuncData} (T : OrdT K mg C) (F : Fun K "places" "Order.places" sPl f fd) : FnOk P w K mg base CX0 1 f fd ["self"] (spPl K C) := by
  obtain ⟨p5, S5⟩ := T.s5
  refine F.ok scPl (fun vs H Q E h => ?_) (fun cdv A outer s H vs Q E hr h => ?_)
  · obtain ⟨q, p, rfl, _⟩ := h; rfl
  · obtain ⟨x, p, rfl, ⟨dx, pa, ua, vs, un, h1, h2, h3, h4, h5, h6, h7⟩, q⟩ := h
    refine ⟨_, pss_one (ps_ret (pe_sl (pv 0))), ?_⟩
    exact ⟨.ref x, rfl, x, C, dx, p5, vs, 5, .ref pa, rfl, h1, T.sc, S5, h2, q pa h3⟩
abbrev sLn : Stmt := inClass (topS 23) 16
theorem scLn : FnScope ["self"] ["self"] (defScope sLn) := ⟨rfl, rfl, rfl, by decide +kernel, rfl, by decide +kernel, by decide +kernel⟩
def spLn (K : PySem.W.Frag) (C : Addr) : Sp := fun vs H Q _ => ∃ (q : Addr) (p : List Int), vs = [.ref q] ∧ IsOrd K C H q p ∧ Q (.int (p.length : Int)) H
theorem ok_ord_len {C f : Addr} {fd : FuncData} (B : TB mg) (T : OrdT K mg C) (F : Fun K "__len__" "Order.__len__" sLn f fd) : FnOk P w K mg base CX0 1 f fd ["self"] (spLn K C) := by
  obtain ⟨p7, S7⟩ := T.s7
  refine F.ok scLn (fun vs H Q E h => ?_) (fun cdv A outer s H vs Q E hr h => ?_)
  · obtain ⟨q, p, rfl, _⟩ := h; rfl
  · obtain ⟨x, p, rfl, ⟨dx, pa, ua, vs, un, h1, h2, h3, h4, h5, h6, h7⟩, q⟩ := h
    refine ⟨_, pss_one (ps_ret (pe_callB call_len_seq (by rfl) B.len PySem.boot_len (pa_cons (pe_sl (pv 0)) pa_nil))), ?_⟩
    refine ⟨.ref x, rfl, x, C, dx, p7, vs, 7, .ref ua, rfl, h1, T.sc, S7, h5, ua, un, rfl, .inr h6, ?_⟩
    rw [h7]
    exact q
/-- what the text tells of the class's methods -/
structure OrdF (P : Program) (w : World) (K : PySem.W.Frag) (mg : Str → Option Value) (base : Heap) (C : Addr) : Prop where
  len : ∃ (g : Addr) (fd : FuncData), PySem.W.findIn K (.ref C) "__len__" = some (some (.ref g)) ∧ PySem.W.isFn K (.ref g) = true ∧ FnOk P w K mg base CX0 1 g fd ["self"] (spLn K C) ∧ L2.Binds K fd ["self"] []
  places : ∃ (pp g : Addr) (fd : FuncData), PySem.W.findIn K (.ref C) "places" = some (some (.ref pp)) ∧ PySem.W.specialIn K (.ref pp) "__get__" = some (some (.builtin "property.__get__")) ∧ PySem.W.takesIn K (.ref pp) = some true ∧
    (∃ rest, PySem.W.recIn K pp "property" = some (.ref g :: rest)) ∧ FnOk P w K mg base CX0 1 g fd ["self"] (spPl K C) ∧ L2.Binds K fd ["self"] []
abbrev sWh : Stmt := topS 24
theorem scWh : FnScope ["value"] ["value"] (defScope sWh) := ⟨rfl, rfl, rfl, by decide +kernel, rfl, by decide +kernel, by decide +kernel⟩
def spWh (K : PySem.W.Frag) (C : Addr) : Sp := fun vs H Q _ => ∃ (q : Addr) (p : List Int), vs = [.ref q] ∧ IsOrd K C H q p ∧ wholeB p = true ∧ Q .non H
theorem ok_require_whole {C : Addr} (B : TB mg) (T : OrdT K mg C) (D : Dfn K mg "require_whole" sWh ["value"]) : Cal P w K mg base 1 "require_whole" ["value"] (spWh K C) := by
  obtain ⟨p0, S0⟩ := T.s0
  refine D.cal scWh (fun vs H Q E h => ?_) (fun f cdv A outer s H vs Q E hr h => ?_)
  · obtain ⟨q, p, rfl, _⟩ := h; rfl
  · obtain ⟨x, p, rfl, ⟨dx, pa, ua, vs, un, h1, h2, h3, h4, h5, h6, h7⟩, hw, q⟩ := h
    refine ⟨_, pss_one (ps_if (PW.pt (pw_or (pt_not (pt_val (pe_callB (call_isiSl (.ref C)) (by rfl) B.isi (by decide +kernel) (pa_cons (pv 0) (pa_cons (pe_glob (v := .ref C) rfl T.mgC rfl) pa_nil))))) (pw_or1 (pt_not (pt_val (pe_sl (pv 0))))))) (pss_one ps_never) pss_nil), ?_⟩
    refine ⟨.ref x, rfl, x, C, dx, vs, .ref C, true, rfl, rfl, fun w hw => hw, h1, T.sc, T.isi, T.self, true, rfl, iteF ?_⟩
    refine ⟨.ref x, rfl, x, C, dx, p0, vs, 0, .bl (wholeB p), rfl, h1, T.sc, S0, h4, true, by rw [hw], iteF ?_⟩
    exact q
abbrev sFw : Stmt := topS 33
theorem scFw : FnScope ["order"] ["order"] (defScope sFw) := ⟨rfl, rfl, rfl, by decide +kernel, rfl, by decide +kernel, by decide +kernel⟩
def spFw (K : PySem.W.Frag) (C : Addr) : Sp := fun vs H Q _ => ∃ (q : Addr) (p : List Int), vs = [.ref q] ∧ IsOrd K C H q p ∧ p.length ≤ 7 ∧ Q .non H
theorem ok_require_few {C : Addr} (B : TB mg) (T : OrdT K mg C) (FF : OrdF P w K mg base C) (hM : ∃ t, mg "MAX_WALKED" = some (.int 7 t)) (D : Dfn K mg "require_few" sFw ["order"]) : Cal P w K mg base 4 "require_few" ["order"] (spFw K C) := by
  obtain ⟨tM, hM⟩ := hM
  obtain ⟨g, fd, hg, hf, FL, bL⟩ := FF.len
  refine D.cal scFw (fun vs H Q E h => ?_) (fun f cdv A outer s H vs Q E hr h => ?_)
  · obtain ⟨q, p, rfl, _⟩ := h; rfl
  · obtain ⟨x, p, rfl, ho, h7, q⟩ := h
    have ho' := ho
    obtain ⟨dx, pa, ua, vs, un, h1, _⟩ := ho'
    refine ⟨_, pss_one (ps_if (pt_cmpR op_gt (pe_callB (Pe.call_lenOwn hg hf (FL.raw bL .nil) hr pass0) (by rfl) B.len PySem.boot_len (pa_cons (pv 0) pa_nil)) (pe_glob (v := .int 7) rfl hM ⟨_, rfl⟩) (nomark _)) (pss_one ps_never) pss_nil), ?_⟩
    refine ⟨.ref x, rfl, x, dx, vs, rfl, h1, x, p, rfl, ho, p.length, rfl, by omega, (p.length : Int), 7, rfl, rfl, false, congrArg V.bl (decide_eq_false (by omega)), iteF ?_⟩
    exact q
abbrev sTw : Stmt := topS 36
theorem scTw : FnScope ["one", "other"] ["one", "other"] (defScope sTw) := ⟨rfl, rfl, rfl, by decide +kernel, rfl, by decide +kernel, by decide +kernel⟩
def spTw (K : PySem.W.Frag) (C : Addr) : Sp := fun vs H Q _ => ∃ (x y : Addr) (p r : List Int), vs = [.ref x, .ref y] ∧ IsOrd K C H x p ∧ IsOrd K C H y r ∧ wholeB p = true ∧ wholeB r = true ∧ p.length ≤ 7 ∧ r.length ≤ 7 ∧ Q .non H
theorem ok_require_two {C : Addr} (hWh : Cal P w K mg base 1 "require_whole" ["value"] (spWh K C)) (hFw : Cal P w K mg base 4 "require_few" ["order"] (spFw K C)) (D : Dfn K mg "require_two" sTw ["one", "other"]) : Cal P w K mg base 5 "require_two" ["one", "other"] (spTw K C) := by
  refine D.cal scTw (fun vs H Q E h => ?_) (fun f cdv A outer s H vs Q E hr h => ?_)
  · obtain ⟨x, y, p, r, rfl, _⟩ := h; rfl
  · obtain ⟨x, y, p, r, rfl, hx, hy, wx, wy, lx, ly, q⟩ := h
    refine ⟨_, pss_cons (ps_expr (pe_cal hWh hr (by decide) (by rfl) (pa_cons (pv 0) pa_nil))) (pss_cons (ps_expr (pe_cal hWh hr (by decide) (by rfl) (pa_cons (pv 1) pa_nil)))
      (pss_cons (ps_expr (pe_cal hFw hr (by decide) (by rfl) (pa_cons (pv 0) pa_nil))) (pss_one (ps_expr (pe_cal hFw hr (by decide) (by rfl) (pa_cons (pv 1) pa_nil)))))), ?_⟩
    refine ⟨.ref x, rfl, x, p, rfl, hx, wx, .ref y, rfl, y, r, rfl, hy, wy, .ref x, rfl, x, p, rfl, hx, lx, .ref y, rfl, y, r, rfl, hy, ly, q⟩
end
end Pd
end

section
set_option linter.all false
set_option maxRecDepth 100000
set_option maxHeartbeats 4000000
/-! class_of, walk_between, are_joined. -/
namespace Pd
open PySem PySem.Spec PyProof.Rows L2 SlX
/-- a class that can be told: few places, of one length, bounded -/
structure Fit (P : Program) (w : World) (p : List Int) (n : Nat) : Prop where
  goes : ∃ U, Goes P w p U ∧ U.length < 64
  len : ∀ q, Reach p q → q.length = n
  bd : ∀ q, Reach p q → TS.Bd 8 q
  one : 1 ≤ n
/-- the class of p, ascending -/
structure ClsL (p : List Int) (cs : List (List Int)) : Prop where
  mem : ∀ q, q ∈ cs ↔ Reach p q
  nd : cs.Nodup
  asc : cs.Pairwise fun q r => TS.code 8 q ≤ TS.code 8 r
/-- .. as an object -/
structure ClsAt (H : Hp) (t : Addr) (qs : Pe.Pairs) : Prop where
  ft : Pe.FT H t (qs.map Pe.xRef)
  el : ∀ q ∈ qs, Pe.FT H q.1 (q.2.map V.int)
theorem FT_to {H H' : Hp} {a : Addr} {xs : List V} (sm : Cf.Same H H') (h : Pe.FT H a xs) : Pe.FT H' a xs := let ⟨o, e, d⟩ := h; ⟨o, sm _ _ e, d⟩
theorem ClsAt.to {H H' : Hp} {t : Addr} {qs : Pe.Pairs} (sm : Cf.Same H H') (h : ClsAt H t qs) : ClsAt H' t qs := ⟨FT_to sm h.ft, fun q hq => FT_to sm (h.el q hq)⟩
section
variable {P : Program} {w : World} {K : PySem.W.Frag} {mg : Str → Option Value} {base : Heap}
abbrev sCO : Stmt := topS 35
theorem scCO : FnScope ["order"] ["order"] (defScope sCO) := ⟨rfl, rfl, rfl, by decide +kernel, rfl, by decide +kernel, by decide +kernel⟩
def spCO (P : Program) (w : World) (K : PySem.W.Frag) (C : Addr) : Sp := fun vs H Q _ => ∃ (x : Addr) (p : List Int) (n : Nat), vs = [.ref x] ∧ IsOrd K C H x p ∧ wholeB p = true ∧ p.length ≤ 7 ∧ Fit P w p n ∧
  ∀ H' t qs, Cf.Same H H' → ClsAt H' t qs → ClsL p (qs.map (·.2)) → Q (.ref t) H'
theorem ok_class_of {C : Addr} (B : TB mg) (T : OrdT K mg C) (FF : OrdF P w K mg base C) (hWh : Cal P w K mg base 1 "require_whole" ["value"] (spWh K C)) (hFw : Cal P w K mg base 4 "require_few" ["order"] (spFw K C))
    (hWK : Cal P w K mg base 2 "walked" ["start", "goal"] (spWK P w K)) (D : Dfn K mg "class_of" sCO ["order"]) : Cal P w K mg base 5 "class_of" ["order"] (spCO P w K C) := by
  obtain ⟨pp, g, fd, a1, a2, a3, a4, FP, bP⟩ := FF.places
  refine D.cal scCO (fun vs H Q E h => ?_) (fun f cdv A outer s H vs Q E hr h => ?_)
  · obtain ⟨x, p, n, rfl, _⟩ := h; rfl
  · obtain ⟨x, p, n, rfl, ho, hw, h7, G, q⟩ := h
    have ho' := ho
    obtain ⟨dx, pa, ua, ws, un, h1, _⟩ := ho'
    obtain ⟨U, GU, hU⟩ := G.goes
    refine ⟨_, pss_cons (ps_expr (pe_cal hWh hr (by decide) (by rfl) (pa_cons (pv 0) pa_nil))) (pss_cons (ps_expr (pe_cal hFw hr (by decide) (by rfl) (pa_cons (pv 0) pa_nil)))
      (pss_one (ps_ret (pe_callTy Pe.call_tupleF (by rfl) B.tuple (by decide +kernel) (pa_cons (pe_callB (Pe.cr_sortDic rfl) (by rfl) B.sorted (by decide +kernel) (pa_cons
        (pe_cal hWK hr (by decide) (by rfl) (pa_cons (pe_propSl (E := E0) (pv 0) T.sc a1 a2 a3 a4 (FP.raw bP .nil) (hr.mono (by decide)) (fun _ _ _ _ z => z)) (pa_cons pe_non pa_nil))) pa_nil)) pa_nil))))), ?_⟩
    refine ⟨.ref x, rfl, x, p, rfl, ho, hw, .ref x, rfl, x, p, rfl, ho, h7, ?_⟩
    refine ⟨.ref x, rfl, x, dx, ws, rfl, h1, x, p, rfl, ho, fun pb hpb => ?_⟩
    refine ⟨pb, p, .non, none, U, rfl, hpb, rfl, GU, fun H1 d L j sm1 nd hd hE hL hj => ?_⟩
    have hj0 : (bfs p j).2 = [] := by
      rcases hj with hj | ⟨k, hk, _⟩
      · exact hj
      · cases hk
    have hll : L.length = (bfs p j).1.length := by rw [← hL, List.length_map]
    have hb := bfs_ok p j
    have hin : ∀ e ∈ L, Reach p e.1 := fun e he => hb.reach e.1 (by rw [← hL]; exact List.mem_map_of_mem he)
    refine ⟨d, L, n, 8, rfl, hd, hE.keys, by rw [hll]; exact Nat.lt_of_le_of_lt (bfs_few GU.inU j) hU, G.one, fun e he => ⟨G.len _ (hin e he), G.bd _ (hin e he)⟩, fun ks l hp hs nl => ?_⟩
    have sl := Pf.same_upd (o := .lst (ks.map Pe.xRef)) nl
    refine ⟨l, _, rfl, .inl (.inl upd_same), fun t o nt od => ?_⟩
    have st := Pf.same_upd (o := HO.frz o (.tup (ks.map Pe.xRef))) nt
    have hkm : ∀ e, e ∈ ks ↔ e ∈ L.map fun q => (q.2.1, q.1) := fun e => hp.mem_iff
    have hpm : (ks.map (·.2)).Perm (bfs p j).1 := by
      have := hp.map (·.2)
      rw [List.map_map] at this
      rw [← hL]
      exact this
    refine q _ t ks ((sm1.trans sl).trans st) ⟨⟨o, upd_same, od⟩, fun e he => ?_⟩ ⟨fun r => ?_, hpm.nodup_iff.mpr hb.nodup, List.pairwise_map.mpr hs⟩
    · obtain ⟨y, hy, rfl⟩ := List.mem_map.mp ((hkm e).mp he)
      exact FT_to (sl.trans st) (hE.ft y hy)
    · rw [hpm.mem_iff]
      exact ⟨fun h => hb.reach r h, fun h => bfs_all hj0 h⟩
abbrev sWB : Stmt := topS 37
abbrev NWB : List Str := ["one", "other", "found", "here", "kinds", "kind"]
theorem scWB : FnScope NWB ["one", "other"] (defScope sWB) := ⟨rfl, rfl, rfl, by decide +kernel, rfl, by decide +kernel, by decide +kernel⟩
def spWB (P : Program) (w : World) (K : PySem.W.Frag) (C : Addr) : Sp := fun vs H Q _ => ∃ (x y : Addr) (p r : List Int) (n : Nat), vs = [.ref x, .ref y] ∧ IsOrd K C H x p ∧ IsOrd K C H y r ∧ wholeB p = true ∧ wholeB r = true ∧ p.length ≤ 7 ∧ r.length ≤ 7 ∧ Fit P w p n ∧
  (¬ Reach p r → ∀ H', Cf.Same H H' → Q .non H') ∧ (Reach p r → ∀ H' t, Cf.Same H H' → Q (.ref t) H')
theorem ok_walk_between {C : Addr} (B : TB mg) (T : OrdT K mg C) (FF : OrdF P w K mg base C) (hTw : Cal P w K mg base 5 "require_two" ["one", "other"] (spTw K C))
    (hWK : Cal P w K mg base 2 "walked" ["start", "goal"] (spWK P w K)) (D : Dfn K mg "walk_between" sWB ["one", "other"]) : Cal P w K mg base 6 "walk_between" ["one", "other"] (spWB P w K C) := by
  obtain ⟨pp, g, fd, a1, a2, a3, a4, FP, bP⟩ := FF.places
  refine D.cal scWB (fun vs H Q E h => ?_) (fun f cdv A outer s H vs Q E hr h => ?_)
  · obtain ⟨x, y, p, r, n, rfl, _⟩ := h; rfl
  · obtain ⟨x, y, p, r, n, rfl, hox, hoy, wx, wy, lx, ly, G, qn, qy⟩ := h
    have hox' := hox
    obtain ⟨dx, _, _, ws, _, h1, _⟩ := hox'
    have hoy' := hoy
    obtain ⟨dy, _, _, wsy, _, h2, _⟩ := hoy'
    obtain ⟨U, GU, hU⟩ := G.goes
    have hu1 : (A.deeper (envOfC "walk_between" (defScope sWB) s.heap.objs.size f cdv)).units + 1 < cLine := by have := hr.units; omega
    refine ⟨_, pss_cons (ps_expr (pe_cal hTw hr (by decide) (by rfl) (pa_cons (pv 0) (pa_cons (pv 1) pa_nil))))
      (pss_cons (ps_par (i := 2) (j := 3) (by rfl) scWB.nd rfl rfl (by decide) rfl rfl (pa_cons (pe_cal hWK hr (by decide) (by rfl) (pa_cons (pe_propSl (E := E0) (pv 0) T.sc a1 a2 a3 a4 (FP.raw bP .nil) (hr.mono (by decide)) (fun _ _ _ _ z => z)) (pa_cons (pe_propSl (E := E0) (pv 1) T.sc a1 a2 a3 a4 (FP.raw bP .nil) (hr.mono (by decide)) (fun _ _ _ _ z => z)) pa_nil)))
          (pa_cons (pe_propSl (E := E0) (pv 1) T.sc a1 a2 a3 a4 (FP.raw bP .nil) (hr.mono (by decide)) (fun _ _ _ _ z => z)) pa_nil)) (by rfl))
      (pss_cons (ps_if (pt_cmpR (Pe.op_dicNotIn hu1) (pv 3) (pv 2) rfl) (pss_one (ps_ret pe_non)) pss_nil)
      (pss_cons (ps_set (i := 4) scWB.nd rfl (.inl rfl) (pe_lst pa_nil))
      (pss_cons (ps_while PassesOwn.never (pt_cmpR op_notN (pe_ix (Pe.ix_dic hu1) (pv 2) (pv 3) (fun _ _ => rfl)) pe_non (nomark _))
        (pss_cons (ps_asg (pe_ix (Pe.ix_dic hu1) (pv 2) (pv 3) (fun _ _ => rfl)) (pg_tup rfl (pgs_cons (pg_name (i := 5) scWB.nd rfl (.inl rfl)) (pgs_cons (pg_name (i := 3) scWB.nd rfl (.inl rfl)) pgs_nil))))
          (pss_one (ps_expr (pe_bm PySem.F.plainAttrs_list PySem.F.slot_list_append PySem.F.type_list_append mt_append (pv 4) (pa_cons (pv 5) pa_nil))))))
      (pss_one (ps_ret (pe_callTy call_tuple_of (by rfl) B.tuple (by decide +kernel) (pa_cons (Pe.pe_rev (pv 4) (pe_un un_neg pe_int)) pa_nil)))))))), ?_⟩
    refine ⟨.ref x, rfl, .ref y, rfl, x, y, p, r, rfl, hox, hoy, wx, wy, lx, ly, ?_⟩
    refine ⟨.ref x, rfl, x, dx, ws, rfl, h1, x, p, rfl, hox, fun pb hpb => ?_⟩
    refine ⟨.ref y, rfl, y, dy, wsy, rfl, h2, y, r, rfl, hoy, fun rb hrb => ?_⟩
    refine ⟨pb, p, .ref rb, some r, U, rfl, hpb, ⟨rb, rfl, hrb.sqT⟩, GU, fun H1 d L j sm1 nd hd hE hL hj => ?_⟩
    refine ⟨.ref y, rfl, y, dy, wsy, rfl, slt_same sm1 h2, y, r, rfl, hoy.to sm1, fun rc hrc => ?_⟩
    refine ⟨_, _, rfl, ?_⟩
    have hb := bfs_ok p j
    have hin : r ∈ L.map (·.1) ↔ Reach p r := by
      rw [hL]
      refine ⟨fun h => hb.reach r h, fun h => ?_⟩
      rcases hj with hj | ⟨k, hk, hm⟩
      · exact bfs_all hj h
      · cases hk; exact hm
    refine ⟨.ref rc, rfl, .ref d, rfl, d, L, rfl, hd, hE.keys, .inl ⟨rc, r, rfl, hrc.sqT, _, rfl, ?_⟩⟩
    by_cases hre : Reach p r
    case neg =>
      rw [decide_eq_false (fun z => hre (hin.mp z))]
      exact iteT (qn hre H1 sm1)
    rw [decide_eq_true (hin.mpr hre)]
    refine iteF ?_
    refine ⟨Nat.zero_le _, fun kl nkl => ?_⟩
    have sk := Pf.same_upd (o := .lst []) nkl
    have hEk : ∀ {H'}, Cf.Same H1 H' → EntsOk K H' p pb L := fun sm => ⟨hE.first, fun e he => FT_to sm (hE.ft e he), fun i k b v h1 h2 => by
      obtain ⟨j, k', b', v', t, st, x1, x2, x3, x4⟩ := hE.back i k b v h1 h2
      exact ⟨j, k', b', v', t, st, x1, x2, x3, Cf_SqT sm x4⟩⟩
    have hll : L.length ≤ 500 := by
      have : L.length = (bfs p j).1.length := by rw [← hL, List.length_map]
      rw [this]
      exact Nat.le_trans (bfs_few GU.inU j) GU.few
    obtain ⟨i0, hi0⟩ := List.mem_iff_getElem?.mp (hin.mpr hre)
    rw [List.getElem?_map] at hi0
    obtain ⟨⟨k0, b0, v0⟩, hi1, ek0⟩ := Option.map_eq_some_iff.mp hi0
    obtain rfl : k0 = r := ek0
    refine ⟨fun m σ H' => ∃ (hb : Addr) (k : List Int) (b : Addr) (v : V) (acc : List V) (ky : Option V), σ = [some (.ref x), some (.ref y), some (.ref d), some (.ref hb), some (.ref kl), ky] ∧ Cf.Same H1 H' ∧ H' kl = some (.lst acc) ∧ SqT K H' hb (k.map V.int) ∧ L[m]? = some (k, b, v) ∧ acc.length + m ≤ 500,
      ⟨i0, rc, k0, b0, v0, [], none, rfl, sk, upd_same, Cf_SqT sk hrc.sqT, hi1, by have := (List.getElem?_eq_some_iff.mp hi1).1; simp; omega⟩, fun m σ H' hW => ?_⟩
    obtain ⟨hb, k, b, v, acc, ky, rfl, sm, hkl, hhb, hm, hlen⟩ := hW
    refine ⟨.ref d, rfl, .ref hb, rfl, d, hb, b, k, L, v, m, rfl, rfl, sm _ _ hd, (hEk sm).keys, hhb, hm, rfl, _, rfl, ?_⟩
    by_cases hv : v = .non
    · rw [decide_eq_true hv]
      refine iteF ?_
      refine ⟨.ref kl, rfl, 1, rfl, rfl, kl, acc, rfl, .inr ⟨.inl (.inl hkl), fun p1 np1 => ?_⟩⟩
      have s1 := Pf.same_upd (o := .lst acc.reverse) np1
      refine ⟨p1, _, rfl, .inl ⟨.inl (.inl upd_same), fun t nt => ?_⟩⟩
      exact qy hre _ t (((sm1.trans sm).trans s1).trans (Pf.same_upd nt))
    · rw [decide_eq_false hv]
      refine iteT ⟨_, fun σ' H' h => h, ?_⟩
      have h1m : 1 ≤ m := by
        rcases Nat.eq_zero_or_pos m with z | z
        · subst z
          have := hE.first
          rw [hm] at this
          cases this
          exact absurd rfl hv
        · exact z
      obtain ⟨j2, k', b', v', t, st, x1, x2, rfl, x4⟩ := (hEk sm).back m k b v h1m hm
      refine ⟨.ref d, rfl, .ref hb, rfl, d, hb, b, k, L, .ref t, m, rfl, rfl, sm _ _ hd, (hEk sm).keys, hhb, hm, ?_⟩
      refine ⟨t, _, rfl, x4, rfl, .str st, [_], rfl, .ref b', [], rfl, rfl, ?_⟩
      refine ⟨.ref kl, rfl, .inl ⟨rfl, acc, .inl (.inl hkl)⟩, .str st, rfl, kl, acc, .str st, rfl, rfl, hkl, Pf.small1000' (by omega), ?_⟩
      have hk0 : H1 kl = none := nkl
      refine ⟨j2, x1, b', k', b', v', acc ++ [.str st], _, rfl, fun e z q => ?_, upd_same, ?_, x2, by rw [List.length_append]; show acc.length + 1 + j2 ≤ 500; omega⟩
      · rw [upd_ne (ne_of_none q hk0)]
        exact sm e z q
      · have hf : Pe.FT H1 b' (k'.map V.int) := hE.ft (k', b', v') (List.mem_of_getElem? x2)
        obtain ⟨o, e1, e2⟩ := hf
        refine Pe.FT.sqT ⟨o, ?_, e2⟩
        rw [upd_ne (ne_of_none e1 hk0)]
        exact sm _ _ e1
abbrev sAJ : Stmt := topS 38
theorem scAJ : FnScope ["one", "other"] ["one", "other"] (defScope sAJ) := ⟨rfl, rfl, rfl, by decide +kernel, rfl, by decide +kernel, by decide +kernel⟩
def spAJ (P : Program) (w : World) (K : PySem.W.Frag) (C : Addr) : Sp := fun vs H Q _ => ∃ (x y : Addr) (p r : List Int) (n : Nat) (jn : Bool), vs = [.ref x, .ref y] ∧ IsOrd K C H x p ∧ IsOrd K C H y r ∧ wholeB p = true ∧ wholeB r = true ∧ p.length ≤ 7 ∧ r.length ≤ 7 ∧ Fit P w p n ∧ (jn = true ↔ Reach p r) ∧
  ∀ H', Cf.Same H H' → Q (.bl jn) H'
theorem ok_are_joined {C : Addr} (hWB : Cal P w K mg base 6 "walk_between" ["one", "other"] (spWB P w K C)) (D : Dfn K mg "are_joined" sAJ ["one", "other"]) : Cal P w K mg base 7 "are_joined" ["one", "other"] (spAJ P w K C) := by
  refine D.cal scAJ (fun vs H Q E h => ?_) (fun f cdv A outer s H vs Q E hr h => ?_)
  · obtain ⟨x, y, p, r, n, jn, rfl, _⟩ := h; rfl
  · obtain ⟨x, y, p, r, n, jn, rfl, hox, hoy, wx, wy, lx, ly, G, hj, q⟩ := h
    refine ⟨_, pss_one (ps_ret (pe_cmpR op_notN (pe_cal hWB hr (by decide) (by rfl) (pa_cons (pv 0) (pa_cons (pv 1) pa_nil))) pe_non (nomark _))), ?_⟩
    refine ⟨.ref x, rfl, .ref y, rfl, x, y, p, r, n, rfl, hox, hoy, wx, wy, lx, ly, G, fun hn H' sm => ⟨rfl, ?_⟩, fun hn H' t sm => ⟨rfl, ?_⟩⟩
    · have e : jn = false := by cases jn with
        | false => rfl
        | true => exact absurd (hj.mp rfl) hn
      have := q H' sm
      rw [e] at this
      exact this
    · have := q H' sm
      rw [hj.mpr hn] at this
      exact this
end
end Pd
end

section
set_option linter.all false
set_option maxRecDepth 100000
set_option maxHeartbeats 4000000
/-! _law_is_whole. -/
namespace Pd
open PySem PySem.Spec PyProof.Rows L2 SlX
theorem perm_of_subI : ∀ {l1 l2 : List Int}, l1.Nodup → (∀ x ∈ l1, x ∈ l2) → l2.length ≤ l1.length → l1.Perm l2
  | [], l2, _, _, h => by
    cases l2 with
    | nil => exact List.Perm.refl _
    | cons a l => simp at h
  | a :: l1, l2, nd, hs, h => by
    have ha := hs a List.mem_cons_self
    have ih := perm_of_subI (l1 := l1) (l2 := l2.erase a) (List.nodup_cons.mp nd).2 (fun x hx => (List.mem_erase_of_ne (fun (e : x = a) => (List.nodup_cons.mp nd).1 (by rw [← e]; exact hx))).mpr (hs x (List.mem_cons_of_mem _ hx)))
      (by rw [List.length_erase_of_mem ha]; simp at h; omega)
    exact (ih.cons a).trans (List.perm_cons_erase ha).symm
def setEqI (a b : List Int) : Bool := a.all (fun x => b.elem x) && b.all (fun x => a.elem x)
/-- the cuts of two rows -/
def cutsL (u p : List Int) : List Nat := (List.range' 1 (u.length - 1)).filter fun k => setEqI (u.take k) (p.take k)
def wholeL (u p : List Int) : Bool := decide (1 < u.length) && decide (cutsL u p = [])
/-- two sets of ints, as compared -/
theorem sets_same {ns ms us vs : List Int} (nu : us.Nodup) (nv : vs.Nodup) (hu : ∀ k, k ∈ us ↔ k ∈ ns) (hv : ∀ k, k ∈ vs ↔ k ∈ ms) : (us.length = vs.length ∧ ∀ k, k ∈ ns → k ∈ ms) ↔ setEqI ns ms = true := by
  unfold setEqI
  rw [Bool.and_eq_true, List.all_eq_true, List.all_eq_true]
  refine ⟨fun ⟨hl, hs⟩ => ⟨fun x hx => List.elem_iff.mpr (hs x hx), fun x hx => List.elem_iff.mpr ?_⟩, fun ⟨h1, h2⟩ => ⟨?_, fun k hk => List.elem_iff.mp (h1 k hk)⟩⟩
  · have hp := perm_of_subI nu (fun x hx => (hv x).mpr (hs x ((hu x).mp hx))) (by omega)
    exact (hu x).mp (hp.mem_iff.mpr ((hv x).mpr hx))
  · have h3 : ∀ x ∈ us, x ∈ vs := fun x hx => (hv x).mpr (List.elem_iff.mp (h1 x ((hu x).mp hx)))
    have h4 : ∀ x ∈ vs, x ∈ us := fun x hx => (hu x).mpr (List.elem_iff.mp (h2 x ((hv x).mp hx)))
    rcases Nat.le_total us.length vs.length with h | h
    · exact (perm_of_subI nv h4 h).length_eq.symm
    · exact (perm_of_subI nu h3 h).length_eq
/-- a comprehension's reading, the list after each turn being told -/
theorem lc_acc {J : It} {H1 : Hp} {n : Nat} (Y : Nat → List V) {D : Addr} {fin : Hp → Prop} {step : (Hp → Prop) → V → Hp → Prop} (hD : H1 D = none) (h0 : Y 0 = []) (hstop : ∀ H, Cf.Same H1 H → J.stop n H) (hgo : ∀ i H, i < n → Cf.Same H1 H → J.go i H)
    (hfin : ∀ H, Cf.Same H1 H → H D = some (.lst (Y n)) → fin H)
    (hstep : ∀ (i : Nat) (H : Hp) (x : V) (H' : Hp) (Nx : Hp → Prop), i < n → Cf.Same H1 H → H D = some (.lst (Y i)) → J.yld i H x H' → (∀ H'', Cf.Same H1 H'' → H'' D = some (.lst (Y (i + 1))) → Nx H'') → step Nx x H') :
    ∃ W : Nat → Nat → Hp → Prop, (∃ m, W 0 m (upd H1 D (.lst []))) ∧ ∀ (i m : Nat) (H : Hp), W i m H → (J.stop i H ∧ fin H) ∨ (J.go i H ∧ ∃ Nx : Hp → Prop, (∀ H', Nx H' → ∃ m', m' < m ∧ W (i + 1) m' H') ∧ ∀ (x : V) (H' : Hp), J.yld i H x H' → step Nx x H') := by
  refine ⟨fun i m H => i + m = n ∧ Cf.Same H1 H ∧ H D = some (.lst (Y i)), ⟨n, Nat.zero_add n, Pf.same_upd hD, by rw [upd_same, h0]⟩, fun i m H hW => ?_⟩
  obtain ⟨e, sm, hd⟩ := hW
  by_cases hi : i < n
  · refine .inr ⟨hgo i H hi sm, fun H'' => Cf.Same H1 H'' ∧ H'' D = some (.lst (Y (i + 1))), fun H' h => ⟨m - 1, by omega, by omega, h.1, h.2⟩, fun x H' hy => ?_⟩
    exact hstep i H x H' _ hi sm hd hy fun H'' h1 h2 => ⟨h1, h2⟩
  · have e' : i = n := by omega
    subst e'
    exact .inl ⟨hstop H sm, hfin H sm hd⟩
theorem SqL_same {K : PySem.W.Frag} {H H' : Hp} {a : Addr} {xs : List V} (sm : Cf.Same H H') (h : SqL K H a xs) : SqL K H' a xs := by
  rcases h with (h | ⟨o, h⟩) | h
  · exact .inl (.inl (sm _ _ h))
  · exact .inl (.inr ⟨o, sm _ _ h⟩)
  · exact .inr h
section
variable {P : Program} {w : World} {K : PySem.W.Frag} {mg : Str → Option Value} {base : Heap}
abbrev sLW : Stmt := topS 45
abbrev NLW : List Str := ["_law_upper", "_law_lower", "_law_cuts", "_law_k"]
theorem scLW : FnScope NLW ["_law_upper", "_law_lower"] (defScope sLW) := ⟨rfl, rfl, rfl, by decide +kernel, rfl, by decide +kernel, by decide +kernel⟩
def spLW (K : PySem.W.Frag) : Sp := fun vs H Q _ => ∃ (a b : Addr) (us ls : List Int), vs = [.ref a, .ref b] ∧ SqL K H a (us.map V.int) ∧ SqL K H b (ls.map V.int) ∧ us.length = ls.length ∧ us.length ≤ 100 ∧ ∀ H', Cf.Same H H' → Q (.bl (wholeL us ls)) H'
theorem ok_law_whole (B : TB mg) (D : Dfn K mg "_law_is_whole" sLW ["_law_upper", "_law_lower"]) : Cal P w K mg base 1 "_law_is_whole" ["_law_upper", "_law_lower"] (spLW K) := by
  refine D.cal scLW (fun vs H Q E h => ?_) (fun f cdv A outer s H vs Q E hr h => ?_)
  · obtain ⟨a, b, us, ls, rfl, _⟩ := h; rfl
  · obtain ⟨a, b, us, ls, rfl, ha, hb, hl, h100, q⟩ := h
    refine ⟨_, pss_cons (ps_setLc (i := 2) (own := [("_law_k", 3)]) (g := gName 3) rfl scLW.nd rfl rfl (by rfl) (pi_range2 (by rfl) B.range (pa_cons pe_int (pa_cons (pe_callB call_len_seq (by rfl) B.len PySem.boot_len (pa_cons (pv 0) pa_nil)) pa_nil))) (blkOk_by (N := NLW) (sc := defScope sLW) (by decide +kernel))
          (fun _ _ _ _ _ => pg_name (i := 3) scLW.nd rfl (Or.inl rfl))
          (fun _ _ _ _ _ => pts_one (pt_cmpR (Pe.op_eqSI hr.units0 : OpR _ (compareOp .Eq) Pe.rEqSI) (pe_callTy (Pe.cr_setLI rfl : CallR _ (.type "set") (Pe.rSetLI K)) (by rfl) B.set (by decide +kernel) (pa_cons (pe_slice (sl_list : SlR _ (rSlL K)) (pv 0) po_none (po_some (pv 3))) pa_nil))
            (pe_callTy (Pe.cr_setLI rfl : CallR _ (.type "set") (Pe.rSetLI K)) (by rfl) B.set (by decide +kernel) (pa_cons (pe_slice (sl_list : SlR _ (rSlL K)) (pv 1) po_none (po_some (pv 3))) pa_nil)) (nomark _)))
          (fun _ _ _ _ _ => pv 3))
      (pss_one (ps_ret (pe_and (pe_cmpR op_gt (pe_callB call_len_seq (by rfl) B.len PySem.boot_len (pa_cons (pv 0) pa_nil)) pe_int (nomark _)) (pe_one (pe_cmpR (op_eqD hr.units) (pv 2) (pe_lst pa_nil) (nomark _)))))), ?_⟩
    have hlu : (us.map V.int).length = us.length := List.length_map ..
    refine ⟨.ref a, rfl, a, us.map V.int, rfl, .inl ha, ?_⟩
    refine ⟨1, ((us.map V.int).length : Int), rfl, ⟨by decide, by decide, by omega, by rw [hlu]; omega⟩, fun D0 hD => ?_⟩
    have en : ((((us.map V.int).length : Nat) : Int) - 1).toNat = us.length - 1 := by rw [hlu]; omega
    rw [en]
    have haL : ∀ {H' : Hp}, Cf.Same H H' → SqL K H' a (us.map V.int) := fun sm => SqL_same sm ha
    have hbL : ∀ {H' : Hp}, Cf.Same H H' → SqL K H' b (ls.map V.int) := fun sm => SqL_same sm hb
    let F : Nat → Bool := fun k => setEqI (us.take k) (ls.take k)
    refine lc_acc (n := us.length - 1) (fun i => ((List.range' 1 i).filter F).map fun (k : Nat) => V.int (k : Int)) hD rfl (fun H' _ => Nat.le_refl _) (fun i H' hi _ => hi) (fun H1 sm1 hl1 => ?_) (fun i H' x H'' Nx hi sm hd hy hN => ?_)
    · refine ⟨.ref a, rfl, a, us.map V.int, rfl, .inl (haL sm1), ((us.map V.int).length : Int), 1, rfl, rfl, decide (1 < us.length), congrArg V.bl (by rw [hlu]; exact decide_eq_decide.mpr (by omega)), ?_⟩
      have e2 : wholeL us ls = (decide (1 < us.length) && decide (cutsL us ls = [])) := rfl
      refine ite2 (fun h1 => ?_) (fun h1 => ?_)
      · refine ⟨.ref D0, rfl, Nat.zero_le _, fun p0 np0 => ?_⟩
        have s0 := Pf.same_upd (o := .lst []) np0
        have em : ((List.range' 1 (us.length - 1)).filter F).map (fun (k : Nat) => V.int (k : Int)) = ((cutsL us ls).map fun (k : Nat) => (k : Int)).map V.int := by rw [List.map_map]; rfl
        rw [em] at hl1
        refine ⟨.list (Pe.intsD ((cutsL us ls).map fun (k : Nat) => (k : Int))), .list (Pe.intsD []), Pe.dpListI (.inl (.inl (s0 _ _ hl1))), Pe.dpListI (k := []) (.inl (.inl upd_same)), Pe.listI_shaped _, Pe.listI_shaped [], ?_⟩
        rw [Pe.listI_eqv]
        have e3 : decide ((cutsL us ls).map (fun (k : Nat) => (k : Int)) = []) = wholeL us ls := by
          rw [e2, h1, Bool.true_and]
          exact decide_eq_decide.mpr List.map_eq_nil_iff
        rw [e3]
        exact q _ (sm1.trans s0)
      · have e3 : wholeL us ls = false := by rw [e2, (Bool.eq_false_iff.mpr h1 : decide (1 < us.length) = false), Bool.false_and]
        have := q H1 sm1
        rw [e3] at this
        exact this
    · obtain ⟨rfl, rfl⟩ := hy
      have ek : (1 : Int) + (i : Int) = ((1 + i : Nat) : Int) := by omega
      rw [ek]
      have hk1 : 1 + i ≤ us.length := by omega
      refine ⟨rfl, ?_⟩
      refine ⟨.ref a, rfl, .int ((1 + i : Nat) : Int), rfl, ((1 + i : Nat) : Int), rfl, a, us.map V.int, rfl, haL sm, fun p np => ?_⟩
      have ec1 : cutV (us.map V.int) none (some ((1 + i : Nat) : Int)) = (us.take (1 + i)).map V.int := by rw [Pf.cut_take (us.map V.int) (1 + i) (by rw [hlu]; exact hk1), List.map_take]
      have ec2 : cutV (ls.map V.int) none (some ((1 + i : Nat) : Int)) = (ls.take (1 + i)).map V.int := by rw [Pf.cut_take (ls.map V.int) (1 + i) (by rw [List.length_map]; omega), List.map_take]
      rw [ec1]
      have t1 := Pf.same_upd (o := .lst ((us.take (1 + i)).map V.int)) np
      refine ⟨p, us.take (1 + i), rfl, .inl (.inl upd_same), by rw [List.length_take]; omega, fun p1 S m u1 np1 nd1 l1 h1 hS1 => ?_⟩
      have t2 := t1.trans (Pf.same_upd (o := .set S m) np1)
      refine ⟨.ref b, rfl, .int ((1 + i : Nat) : Int), rfl, ((1 + i : Nat) : Int), rfl, b, ls.map V.int, rfl, hbL (sm.trans t2), fun p2 np2 => ?_⟩
      rw [ec2]
      have t3 := Pf.same_upd (o := .lst ((ls.take (1 + i)).map V.int)) np2
      refine ⟨p2, ls.take (1 + i), rfl, .inl (.inl upd_same), by rw [List.length_take]; omega, fun p3 T m3 u3 np3 nd3 l3 h3 hS3 => ?_⟩
      have t4 := t3.trans (Pf.same_upd (o := .set T m3) np3)
      refine ⟨p1, p3, S, T, m, m3, rfl, rfl, t4 _ _ upd_same, upd_same, fun r hr => ?_⟩
      have er : r = F (1 + i) := by
        rw [Bool.eq_iff_iff, hr, ← l1, ← l3, ← sets_same nd1 nd3 h1 h3]
        exact and_congr_right fun _ => ⟨fun z k hk => (hS3 k).mp (z k ((hS1 k).mpr hk)), fun z k hk => (hS3 k).mpr (z k ((hS1 k).mp hk))⟩
      have st := t2.trans t4
      have eY : (List.range' 1 (i + 1)).filter F = (List.range' 1 i).filter F ++ (if F (1 + i) = true then [1 + i] else []) := by
        rw [List.range'_concat, List.filter_append]
        simp only [List.filter_cons, List.filter_nil, Nat.one_mul]
      have hdl := st _ _ hd
      refine ⟨r, rfl, ?_⟩
      rw [er]
      refine ite2 (fun hF => ?_) (fun hF => ?_)
      · refine ⟨.int ((1 + i : Nat) : Int), rfl, _, hdl, Pf.small1000' ?_, hN _ (fun c z e => ?_) ?_⟩
        · rw [List.length_map]
          have := List.length_filter_le F (List.range' 1 i)
          rw [List.length_range'] at this
          omega
        · rw [upd_ne (ne_of_none e hD)]
          exact st _ _ (sm _ _ e)
        · rw [upd_same, eY, if_pos hF, List.map_append]
          rfl
      · refine hN _ (sm.trans st) ?_
        rw [eY, if_neg hF, List.append_nil]
        exact hdl
end
end Pd
end

section
set_option linter.all false
set_option maxRecDepth 100000
set_option maxHeartbeats 4000000
/-! _law_moved_places. -/
namespace Pd
open PySem PySem.Spec PyProof.Rows L2 SlX
def lowI (p : List Int) : List Int := (lowsOf p).map fun (k : Nat) => (k : Int)
def insI (xs : List Int) (i : Nat) (y : Int) : List Int := xs.take i ++ [y] ++ xs.drop i
/-- the places behind a round, by rows -/
def movedL (low : Bool) (p : List Int) : List Int :=
  if low then (insI (Pf.rangeI p.length).dropLast ((Pf.rangeI p.length).dropLast.idxOf (ixMax p : Int) + 1) ((p.length : Int) - 1)).map fun one => ((lowI p).idxOf one : Int)
  else (Pf.rangeI p.length).map fun one => ((insI (lowI p).dropLast ((lowI p).dropLast.idxOf ((p.length : Int) - 1) + 1) (ixMax p : Int)).idxOf one : Int)
theorem lowI_len (p : List Int) : (lowI p).length = p.length := by unfold lowI; rw [List.length_map, lows_len]
theorem mem_lowI {p : List Int} (h : GoodP p) {x : Int} : x ∈ lowI p ↔ x ∈ Pf.rangeI p.length := by
  unfold lowI
  rw [List.mem_map, mem_rangeI]
  refine ⟨fun ⟨k, hk, e⟩ => ⟨k, List.mem_range.mp ((lows_perm h).mem_iff.mpr hk), e.symm⟩, fun ⟨k, hk, e⟩ => ⟨k, (lows_perm h).mem_iff.mp (List.mem_range.mpr hk), e.symm⟩⟩
/-- the lower row when i places are written -/
def stepI (p : List Int) (i : Nat) : List V := (List.range p.length).map fun (q : Nat) => if p.idxOf (q : Int) < i then V.int (p.idxOf (q : Int) : Nat) else V.int 0
theorem stepI_len (p : List Int) (i : Nat) : (stepI p i).length = p.length := by unfold stepI; rw [List.length_map, List.length_range]
theorem stepI_at {p : List Int} {i q : Nat} (hq : q < p.length) : (stepI p i)[q]? = some (if p.idxOf (q : Int) < i then V.int (p.idxOf (q : Int) : Nat) else V.int 0) := by
  unfold stepI
  rw [List.getElem?_map, List.getElem?_range hq]; rfl
theorem stepI_0 (p : List Int) : stepI p 0 = List.replicate p.length (V.int 0) := by
  unfold stepI
  refine List.eq_replicate_iff.mpr ⟨by rw [List.length_map, List.length_range], fun b hb => ?_⟩
  obtain ⟨q, _, rfl⟩ := List.mem_map.mp hb
  rw [if_neg (Nat.not_lt_zero _)]
theorem stepI_n {p : List Int} (h : GoodP p) : stepI p p.length = (lowI p).map V.int := by
  unfold stepI lowI lowsOf
  rw [List.map_map, List.map_map]
  exact List.map_congr_left fun q hq => by rw [if_pos (List.idxOf_lt_length_iff.mpr (h.mem (List.mem_range.mp hq)))]; rfl
theorem stepI_step {p : List Int} (h : GoodP p) {i k : Nat} (hi : i < p.length) (e : p[i] = (k : Int)) : (stepI p i).set k (V.int (i : Nat)) = stepI p (i + 1) := by
  have e1 : p.idxOf (k : Int) = i := idxOf_at h.nd (by rw [List.getElem?_eq_getElem hi, e])
  refine List.ext_getElem? fun q => ?_
  by_cases h2 : q < p.length
  case neg => rw [List.getElem?_eq_none (by rw [List.length_set, stepI_len]; omega), List.getElem?_eq_none (by rw [stepI_len]; omega)]
  rw [List.getElem?_set, stepI_len, stepI_at h2, stepI_at h2]
  by_cases hq : k = q
  · subst hq
    rw [if_pos rfl, if_pos h2, e1, if_pos (Nat.lt_succ_self i)]
  · rw [if_neg hq]
    have hne : p.idxOf (q : Int) ≠ i := fun z => hq (by
      have hj2 : p.idxOf (q : Int) < p.length := List.idxOf_lt_length_iff.mpr (h.mem h2)
      have e2 : p[p.idxOf (q : Int)] = (q : Int) := List.getElem_idxOf hj2
      have e3 : p[p.idxOf (q : Int)] = p[i] := by congr 1
      rw [e2, e] at e3
      omega)
    by_cases hlt : p.idxOf (q : Int) < i
    · rw [if_pos hlt, if_pos (by omega)]
    · rw [if_neg hlt, if_neg (by omega)]
/-- list.index of ints -/
theorem rix {zs : List Int} {y : Int} (hy : y ∈ zs) : (zs.map V.int).all flatV = true ∧ (zs.map V.int)[zs.idxOf y]? = some (.int y) ∧ ∀ (m : Nat) (z' : V), m < zs.idxOf y → (zs.map V.int)[m]? = some z' → eqV z' (.int y) = false := by
  have hj : zs.idxOf y < zs.length := List.idxOf_lt_length_iff.mpr hy
  refine ⟨?_, ?_, fun m z' hm hz => ?_⟩
  · rw [List.all_map]; exact List.all_eq_true.mpr fun _ _ => rfl
  · rw [List.getElem?_map, List.getElem?_eq_getElem hj, List.getElem_idxOf hj]; rfl
  · have hmp : m < zs.length := by omega
    rw [List.getElem?_map, List.getElem?_eq_getElem hmp] at hz
    cases hz
    exact List.not_of_lt_findIdx (p := (· == y)) hm
theorem atI_lastI {xs : List Int} {y : Int} (h : xs.getLast? = some y) : atI (xs.map V.int) (-1) = some (.int y) := by
  have e : xs = xs.dropLast ++ [y] := by
    have hne : xs ≠ [] := fun z => by rw [z] at h; cases h
    rw [List.getLast?_eq_some_getLast hne] at h
    rw [← Option.some.inj h]
    exact (List.dropLast_concat_getLast hne).symm
  rw [e, List.map_append]
  exact atI_last _ _
section
variable {P : Program} {w : World} {K : PySem.W.Frag} {mg : Str → Option Value} {base : Heap}
/-- a comprehension over a list -/
theorem lc_lstS {K : PySem.W.Frag} {H1 : Hp} {a : Addr} {xs ys : List V} {D : Addr} {fin : Hp → Prop} {step : (Hp → Prop) → V → Hp → Prop} (hD : H1 D = none) (ha : SqL K H1 a xs) (hys : ys.length = xs.length) (hfin : ∀ H, Cf.Same H1 H → H D = some (.lst ys) → fin H)
    (hstep : ∀ (i : Nat) (H : Hp) (x : V) (Nx : Hp → Prop), xs[i]? = some x → Cf.Same H1 H → H D = some (.lst (ys.take i)) → (∀ H'', Cf.Same H1 H'' → H'' D = some (.lst (ys.take (i + 1))) → Nx H'') → step Nx x H) :
    ∃ W : Nat → Nat → Hp → Prop, (∃ m, W 0 m (upd H1 D (.lst []))) ∧ ∀ (i m : Nat) (H : Hp), W i m H → ((Itl K a).stop i H ∧ fin H) ∨ ((Itl K a).go i H ∧ ∃ Nx : Hp → Prop, (∀ H', Nx H' → ∃ m', m' < m ∧ W (i + 1) m' H') ∧ ∀ (x : V) (H' : Hp), (Itl K a).yld i H x H' → step Nx x H') := by
  refine lc_same (n := xs.length) hD hys (fun H sm => ⟨xs, SqL_same sm ha, Nat.le_refl _⟩) (fun i H hi sm => ⟨xs, xs[i], SqL_same sm ha, List.getElem?_eq_getElem hi⟩) hfin fun i H x H' Nx hi sm hd hy hN => ?_
  obtain ⟨rfl, hx⟩ := hy
  exact hstep i H' x Nx (hx xs (SqL_same sm ha)) sm hd hN
/-- the last row of _law_moved_places -/
theorem mp_tail {H Hf : Hp} {u l : Addr} {a0 a1 y4 y5 a6 a7 : Option V} {uu ll : List Int} {D : Ends} (sm : Cf.Same H Hf) (hu : Hf u = some (.lst (uu.map V.int))) (hl : Hf l = some (.lst (ll.map V.int))) (hm : ∀ y ∈ uu, y ∈ ll) (h100 : uu.length ≤ 100)
    (q : ∀ H' t, Cf.Same H H' → H' t = some (.tup ((uu.map fun one => (ll.idxOf one : Int)).map V.int)) → D.rt (.ref t) H') :
    tRet (tCB (fun xs H Q => ∃ p ys, xs = [.ref p] ∧ ((SqL K H p ys ∧ ∀ l, H l = none → Q (.ref l) (upd H l (.tup ys))) ∨ (SqT K H p ys ∧ Q (.ref p) H))) (tCons (tLc (iList K (tVar 2)) (gName 8) tYes (tBM K "list" (rIndex K) (tVar 3) (tCons (tVar 8) tNil)) [8]) tNil)) D
      [a0, a1, some (.ref u), some (.ref l), y4, y5, a6, a7, none] Hf := by
  refine ⟨.ref u, rfl, u, rfl, ⟨_, .inl (.inl hu)⟩, fun L hL => ?_⟩
  refine lc_lstS (ys := (uu.map fun one => (ll.idxOf one : Int)).map V.int) hL (.inl (.inl hu)) (by simp) (fun H1 s1 h1 => ?_) (fun i H' x Nx hx s1 hd hN => ?_)
  · refine ⟨L, _, rfl, .inl ⟨.inl (.inl h1), fun t nt => ?_⟩⟩
    exact q _ t ((sm.trans s1).trans (Pf.same_upd nt)) upd_same
  · rw [List.getElem?_map] at hx
    obtain ⟨y, hy, rfl⟩ := Option.map_eq_some_iff.mp hx
    refine ⟨rfl, iteT (B := Nx H') ?_⟩
    refine ⟨.ref l, rfl, .inl ⟨rfl, _, .inl (.inl (s1 _ _ hl))⟩, .int y, rfl, l, _, .int y, _, .int y, rfl, rfl, .inl (.inl (s1 _ _ hl)), rfl, (rix (hm y (List.mem_of_getElem? hy))).1, (rix (hm y (List.mem_of_getElem? hy))).2.1, beq_self_eq_true y, (rix (hm y (List.mem_of_getElem? hy))).2.2, ?_⟩
    exact acc_ok hL hd (by rw [List.getElem?_map, List.getElem?_map, hy]; rfl) (by have := (List.getElem?_eq_some_iff.mp hy).1; omega) s1 hN
abbrev sMP : Stmt := topS 46
abbrev NMP : List Str := ["_law_places", "_law_kind", "_law_upper", "_law_lower", "_law_at", "_law_place", "_law_above", "_law_below", "_law_one"]
theorem scMP : FnScope NMP ["_law_places", "_law_kind"] (defScope sMP) := ⟨rfl, rfl, rfl, by decide +kernel, rfl, by decide +kernel, by decide +kernel⟩
def spMP (K : PySem.W.Frag) : Sp := fun vs H Q _ => ∃ (a : Addr) (p : List Int) (low : Bool), vs = [.ref a, .str (kindS low)] ∧ SqT K H a (p.map V.int) ∧ GoodP p ∧ ixMax p + 1 < p.length ∧ ∀ H' t, Cf.Same H H' → H' t = some (.tup ((movedL low p).map V.int)) → Q (.ref t) H'
theorem ok_law_moved (B : TB mg) (D : Dfn K mg "_law_moved_places" sMP ["_law_places", "_law_kind"]) : Cal P w K mg base 1 "_law_moved_places" ["_law_places", "_law_kind"] (spMP K) := by
  refine D.cal scMP (fun vs H Q E h => ?_) (fun f cdv A outer s H vs Q E hr h => ?_)
  · obtain ⟨a, p, low, rfl, _⟩ := h; rfl
  · obtain ⟨a, p, low, rfl, ha, G, hix, q⟩ := h
    refine ⟨_, pss_cons (ps_asg (pe_tup (pa_cons (pe_listRg rfl (by rfl) B.list (prg_1 (by rfl) B.range (pe_callB call_len_seq (by rfl) B.len PySem.boot_len (pa_cons (pv 0) pa_nil))))
          (pa_cons (pe_op op_rep (pe_lst (pa_cons pe_int pa_nil)) (pe_callB call_len_seq (by rfl) B.len PySem.boot_len (pa_cons (pv 0) pa_nil))) pa_nil))) (pg_tup rfl (pgs_cons (pg_name (i := 2) scMP.nd rfl (.inl rfl)) (pgs_cons (pg_name (i := 3) scMP.nd rfl (.inr rfl)) pgs_nil))))
      (pss_cons (ps_for PassesOwn.never rfl (Pe.pi_enumT (by rfl) B.enumerate (pa_cons (pv 0) pa_nil)) (pg_tup rfl (pgs_cons (pg_name (i := 4) scMP.nd rfl (.inl rfl)) (pgs_cons (pg_name (i := 5) scMP.nd rfl (.inl rfl)) pgs_nil)))
          (pss_one (ps_asg (pv 4) (pg_sub (pv 3) (pv 5) set_list))))
      (pss_cons (ps_par (i := 6) (j := 7) (by rfl) scMP.nd rfl rfl (by decide) rfl rfl (pa_cons (pe_ix ix_seq (pv 2) (pe_un un_neg pe_int) (fun _ _ => rfl)) (pa_cons (pe_ix ix_seq (pv 3) (pe_un un_neg pe_int) (fun _ _ => rfl)) pa_nil)) (by rfl))
      (pss_cons (ps_if (pt_cmpR op_eq (pv 1) pe_str (nomark _))
          (pss_cons (ps_expr (pe_bm0 PySem.F.plainAttrs_list PySem.F.slot_list_pop PySem.F.type_list_pop mt_pop (pv 3)))
            (pss_one (ps_expr (pe_bm PySem.F.plainAttrs_list PySem.F.slot_list_insert PySem.F.type_list_insert mt_insert (pv 3) (pa_cons (pe_op op_add (pe_bm PySem.F.plainAttrs_list PySem.F.slot_list_index PySem.F.type_list_index mt_index (pv 3) (pa_cons (pv 6) pa_nil)) pe_int) (pa_cons (pv 7) pa_nil))))))
          (pss_cons (ps_expr (pe_bm0 PySem.F.plainAttrs_list PySem.F.slot_list_pop PySem.F.type_list_pop mt_pop (pv 2)))
            (pss_one (ps_expr (pe_bm PySem.F.plainAttrs_list PySem.F.slot_list_insert PySem.F.type_list_insert mt_insert (pv 2) (pa_cons (pe_op op_add (pe_bm PySem.F.plainAttrs_list PySem.F.slot_list_index PySem.F.type_list_index mt_index (pv 2) (pa_cons (pv 7) pa_nil)) pe_int) (pa_cons (pv 6) pa_nil)))))))
      (pss_one (ps_ret (pe_callTy call_tuple_of (by rfl) B.tuple (by decide +kernel) (pa_cons
        (pe_lc (own := [("_law_one", 8)]) (g := gName 8) (tt := tYes) (te := tBM K "list" (rIndex K) (tVar 3) (tCons (tVar 8) tNil)) rfl scMP.nd (pi_list (pv 2)) (blkOk_by (N := NMP) (sc := defScope sMP) (by decide +kernel)) (fun _ _ _ _ _ => pg_name (i := 8) scMP.nd rfl (Or.inl rfl)) (fun _ _ _ _ _ => pts_nil)
          (fun _ _ _ _ _ => pe_bm PySem.F.plainAttrs_list PySem.F.slot_list_index PySem.F.type_list_index (mt_index : MtR _ "list.index" (rIndex K)) (pv 3) (pa_cons (pv 8) pa_nil))) pa_nil))))))), ?_⟩
    have hlp : (p.map V.int).length = p.length := List.length_map ..
    have h2 := G.1
    have h7 := G.2.1
    have haT : ∀ {H' : Hp}, Cf.Same H H' → SqT K H' a (p.map V.int) := fun sm => Cf_SqT sm ha
    refine ⟨.ref a, rfl, a, p.map V.int, rfl, .inr ha, ((p.map V.int).length : Int), rfl, RgOk.of_le (by omega) (by omega) (by omega) (by omega), fun u nu => ?_⟩
    have s1 : Cf.Same H (upd H u (.lst (rgV 0 ((p.map V.int).length : Int)))) := Pf.same_upd nu
    have hu1 : (upd H u (.lst (rgV 0 ((p.map V.int).length : Int)))) u = some (.lst ((Pf.rangeI p.length).map V.int)) := by rw [upd_same, hlp, Pf.rgV_range]
    generalize upd H u (.lst (rgV 0 ((p.map V.int).length : Int))) = H1 at s1 hu1 ⊢
    refine ⟨by show 1 ≤ sizeLine; decide, fun z nz => ?_⟩
    have s2 := Pf.same_upd (o := .lst [.int 0]) nz
    refine ⟨.ref a, rfl, a, p.map V.int, rfl, .inr (haT (s1.trans s2)), z, ((p.map V.int).length : Int), [.int 0], rfl, rfl, upd_same, by omega, by rw [hlp]; omega, by rw [hlp]; show 1 * _ ≤ sizeLine; exact Nat.le_trans (by omega : 1 * (p.length : Int).toNat ≤ 7) (by decide), fun l nl => ?_⟩
    have s3 := s2.trans (Pf.same_upd (o := .lst (List.replicate ((p.map V.int).length : Int).toNat [V.int 0]).flatten) nl)
    have hl3 : (upd (upd H1 z (.lst [.int 0])) l (.lst (List.replicate ((p.map V.int).length : Int).toNat [V.int 0]).flatten)) l = some (.lst (stepI p 0)) := by
      rw [upd_same, stepI_0, hlp]
      simp
    have hul : u ≠ l := fun e => by
      have := s2 _ _ hu1
      rw [e, nl] at this; cases this
    have hHl : H l = none := by
      cases e : H l with
      | none => rfl
      | some o => rw [(s1.trans s2) _ _ e] at nl; cases nl
    have hu3 := s3 _ _ hu1
    have s13 := s1.trans s3
    generalize upd (upd H1 z (.lst [.int 0])) l (.lst (List.replicate ((p.map V.int).length : Int).toNat [V.int 0]).flatten) = H3 at s3 hl3 hu3 s13 ⊢
    refine ⟨by show 2 ≤ sizeLine; decide, fun T nT => ?_⟩
    have sT := Pf.same_upd (o := .tup [.ref u, .ref l]) nT
    refine ⟨T, [.ref u, .ref l], rfl, .inl (.inl upd_same), rfl, _, [_], rfl, _, [], rfl, rfl, ?_⟩
    refine ⟨.ref a, rfl, a, p.map V.int, rfl, haT (s13.trans sT), ?_⟩
    refine for_inv (n := p.length) (fun i σ H' => ∃ y4 y5, σ = [some (.ref a), some (.str (kindS low)), some (.ref u), some (.ref l), y4, y5, none, none, none] ∧ Cf.Same H H' ∧ H' u = some (.lst ((Pf.rangeI p.length).map V.int)) ∧ H' l = some (.lst (stepI p i)))
      ⟨none, none, rfl, s13.trans sT, sT _ _ hu3, sT _ _ hl3⟩ (fun σ H' hv => ?_) (fun i σ H' hi hv => ?_) (fun i σ H' x H'' Nx hi hv hy hN => ?_)
    case refine_2 =>
      obtain ⟨y4, y5, rfl, sm, hu, hl⟩ := hv
      exact ⟨_, .int p[i], haT sm, by rw [List.getElem?_map, List.getElem?_eq_getElem hi]; rfl⟩
    case refine_3 =>
      obtain ⟨y4, y5, rfl, sm, hu, hl⟩ := hv
      obtain ⟨T2, y, rfl, nT2, rfl, hy⟩ := hy
      have ey : y = .int p[i] := by
        have := hy _ (haT sm)
        rw [List.getElem?_map, List.getElem?_eq_getElem hi] at this
        exact (Option.some.inj this).symm
      subst ey
      obtain ⟨k, hk, ek⟩ := G.at hi
      have sT2 := Pf.same_upd (o := .tup [.int (i : Nat), .int p[i]]) nT2
      refine ⟨T2, [.int (i : Nat), .int p[i]], rfl, .inl (.inl upd_same), rfl, _, [_], rfl, _, [], rfl, rfl, ?_⟩
      refine ⟨.int (i : Nat), rfl, .ref l, rfl, .int p[i], rfl, l, stepI p i, p[i], k, rfl, rfl, sT2 _ _ hl, ?_, ?_⟩
      · rw [stepI_len, ek]
        exact ixN_here hk
      · refine hN _ _ ⟨_, _, rfl, fun b z e => ?_, ?_, by rw [upd_same, stepI_step G hi ek]⟩
        · rw [upd_ne (ne_of_none e hHl)]
          exact sT2 _ _ (sm _ _ e)
        · rw [upd_ne hul]
          exact sT2 _ _ hu
    obtain ⟨y4, y5, rfl, sm, hu, hl⟩ := hv
    refine ⟨⟨_, haT sm, by rw [hlp]; exact Nat.le_refl _⟩, ?_⟩
    rw [stepI_n G] at hl
    have hru : (Pf.rangeI p.length).getLast? = some ((p.length : Int) - 1) := by
      unfold Pf.rangeI
      rw [List.getLast?_map, List.getLast?_range, if_neg (by omega)]
      exact congrArg some (by show ((p.length - 1 : Nat) : Int) = _; omega)
    have hrl : (lowI p).getLast? = some (ixMax p : Int) := by
      unfold lowI
      rw [List.getLast?_map, List.getLast?_eq_getElem?, lows_len, lows_at (by omega)]
      have e : ((p.length - 1 : Nat) : Int) = (p.length : Int) - 1 := by omega
      rw [e]; rfl
    refine ⟨.ref u, rfl, 1, rfl, .inl ⟨u, _, -1, _, rfl, rfl, .inl (.inl hu), atI_lastI hru, ?_⟩⟩
    refine ⟨.ref l, rfl, 1, rfl, .inl ⟨l, _, -1, _, rfl, rfl, .inl (.inl hl), atI_lastI hrl, ?_⟩⟩
    refine ⟨_, _, rfl, ?_⟩
    have hlow : ∀ b : Bool, decide (V.str (kindS b) = V.str "upper") = !b := fun b => by cases b <;> decide +kernel
    refine ⟨.str (kindS low), rfl, rfl, _, rfl, ?_⟩
    rw [hlow low]
    have lenL := lowI_len p
    have lenU : (Pf.rangeI p.length).length = p.length := by unfold Pf.rangeI; rw [List.length_map, List.length_range]
    have lastNe : ∀ {xs : List Int} {y z : Int}, xs.getLast? = some y → z ∈ xs → z ≠ y → z ∈ xs.dropLast := fun {xs y z} h1 h2 h3 => by
      have hne : xs ≠ [] := fun e => by rw [e] at h1; cases h1
      rw [List.getLast?_eq_some_getLast hne] at h1
      have e := List.dropLast_concat_getLast hne
      rw [← e] at h2
      rcases List.mem_append.mp h2 with h | h
      · exact h
      · exact absurd ((List.mem_singleton.mp h).trans (Option.some.inj h1)) h3
    have hdl : ∀ {xs : List Int} {y : Int}, xs.getLast? = some y → (xs.map V.int)[(xs.map V.int).length - 1]? = some (.int y) := fun {xs y} h => by
      rw [List.getElem?_map, List.length_map, ← List.getLast?_eq_getElem?, h]; rfl
    have mem_ins : ∀ {xs : List Int} {i : Nat} {y z : Int}, z ∈ insI xs i y ↔ z ∈ xs ∨ z = y := fun {xs i y z} => by
      unfold insI
      rw [List.mem_append, List.mem_append, List.mem_singleton]
      conv => rhs; rw [← List.take_append_drop i xs, List.mem_append]
      constructor
      · rintro ((h | h) | h)
        · exact .inl (.inl h)
        · exact .inr h
        · exact .inl (.inr h)
      · rintro ((h | h) | h)
        · exact .inl (.inl h)
        · exact .inr h
        · exact .inl (.inr h)
    have hAU : ((p.length : Int) - 1) ∈ Pf.rangeI p.length := mem_rangeI.mpr ⟨p.length - 1, by omega, by omega⟩
    have hBU : (ixMax p : Int) ∈ Pf.rangeI p.length := mem_rangeI.mpr ⟨ixMax p, by omega, rfl⟩
    cases low with
    | false =>
      refine iteT ?_
      refine ⟨.ref l, rfl, .inl ⟨rfl, _, .inl (.inl hl)⟩, l, _, _, rfl, rfl, hl, hdl hrl, ?_⟩
      have s5 : Cf.Same H (upd H' l (.lst ((lowI p).map V.int).dropLast)) := fun b z e => by rw [upd_ne (ne_of_none e hHl)]; exact sm _ _ e
      have hl5 : (upd H' l (.lst ((lowI p).map V.int).dropLast)) l = some (.lst ((lowI p).dropLast.map V.int)) := by rw [upd_same, List.map_dropLast]
      have hu5 : (upd H' l (.lst ((lowI p).map V.int).dropLast)) u = some (.lst ((Pf.rangeI p.length).map V.int)) := by rw [upd_ne hul]; exact hu
      generalize upd H' l (.lst ((lowI p).map V.int).dropLast) = H5 at s5 hl5 hu5 ⊢
      have hAin : ((p.length : Int) - 1) ∈ (lowI p).dropLast := lastNe hrl ((mem_lowI G).mpr hAU) (by omega)
      refine ⟨.ref l, rfl, .inl ⟨rfl, _, .inl (.inl hl5)⟩, .ref l, rfl, .inl ⟨rfl, _, .inl (.inl hl5)⟩, .int ((p.length : Int) - 1), rfl, l, _, .int ((p.length : Int) - 1), _, .int ((p.length : Int) - 1), rfl, rfl, .inl (.inl hl5), rfl, (rix hAin).1, (rix hAin).2.1, beq_self_eq_true ((p.length : Int) - 1), (rix hAin).2.2, ?_⟩
      refine ⟨_, 1, rfl, rfl, .int (ixMax p : Int), rfl, l, _, _, _, rfl, rfl, hl5, Pf.small1000' (by rw [List.length_map, List.length_dropLast]; omega), by omega, ?_, ?_⟩
      · have : (lowI p).dropLast.idxOf ((p.length : Int) - 1) ≤ (lowI p).dropLast.length := List.idxOf_le_length
        rw [List.length_dropLast] at this
        omega
      have s6 : Cf.Same H (upd H5 l (.lst (List.take (((lowI p).dropLast.idxOf ((p.length : Int) - 1) : Nat) + 1 : Int).toNat ((lowI p).dropLast.map V.int) ++ [.int (ixMax p : Int)] ++ List.drop (((lowI p).dropLast.idxOf ((p.length : Int) - 1) : Nat) + 1 : Int).toNat ((lowI p).dropLast.map V.int)))) :=
        fun b z e => by rw [upd_ne (ne_of_none e hHl)]; exact s5 _ _ e
      refine mp_tail (uu := Pf.rangeI p.length) (ll := insI (lowI p).dropLast ((lowI p).dropLast.idxOf ((p.length : Int) - 1) + 1) (ixMax p : Int)) s6 (by rw [upd_ne hul]; exact hu5) ?_ (fun y hy => ?_) (by omega) q
      · rw [upd_same]
        unfold insI
        rw [List.map_append, List.map_append, List.map_take, List.map_drop]
        rfl
      · rw [mem_ins]
        by_cases e : y = (ixMax p : Int)
        · exact .inr e
        · exact .inl (lastNe hrl ((mem_lowI G).mpr hy) e)
    | true =>
      have hHu : H u = none := nu
      refine iteF ?_
      refine ⟨.ref u, rfl, .inl ⟨rfl, _, .inl (.inl hu)⟩, u, _, _, rfl, rfl, hu, hdl hru, ?_⟩
      have s5 : Cf.Same H (upd H' u (.lst ((Pf.rangeI p.length).map V.int).dropLast)) := fun b z e => by rw [upd_ne (ne_of_none e hHu)]; exact sm _ _ e
      have hu5 : (upd H' u (.lst ((Pf.rangeI p.length).map V.int).dropLast)) u = some (.lst ((Pf.rangeI p.length).dropLast.map V.int)) := by rw [upd_same, List.map_dropLast]
      have hl5 : (upd H' u (.lst ((Pf.rangeI p.length).map V.int).dropLast)) l = some (.lst ((lowI p).map V.int)) := by rw [upd_ne (Ne.symm hul)]; exact hl
      generalize upd H' u (.lst ((Pf.rangeI p.length).map V.int).dropLast) = H5 at s5 hl5 hu5 ⊢
      have hBin : (ixMax p : Int) ∈ (Pf.rangeI p.length).dropLast := lastNe hru hBU (by omega)
      refine ⟨.ref u, rfl, .inl ⟨rfl, _, .inl (.inl hu5)⟩, .ref u, rfl, .inl ⟨rfl, _, .inl (.inl hu5)⟩, .int (ixMax p : Int), rfl, u, _, .int (ixMax p : Int), _, .int (ixMax p : Int), rfl, rfl, .inl (.inl hu5), rfl, (rix hBin).1, (rix hBin).2.1, beq_self_eq_true (ixMax p : Int), (rix hBin).2.2, ?_⟩
      refine ⟨_, 1, rfl, rfl, .int ((p.length : Int) - 1), rfl, u, _, _, _, rfl, rfl, hu5, Pf.small1000' (by rw [List.length_map, List.length_dropLast]; omega), by omega, ?_, ?_⟩
      · have : (Pf.rangeI p.length).dropLast.idxOf (ixMax p : Int) ≤ (Pf.rangeI p.length).dropLast.length := List.idxOf_le_length
        rw [List.length_dropLast] at this
        omega
      have s6 : Cf.Same H (upd H5 u (.lst (List.take (((Pf.rangeI p.length).dropLast.idxOf (ixMax p : Int) : Nat) + 1 : Int).toNat ((Pf.rangeI p.length).dropLast.map V.int) ++ [.int ((p.length : Int) - 1)] ++ List.drop (((Pf.rangeI p.length).dropLast.idxOf (ixMax p : Int) : Nat) + 1 : Int).toNat ((Pf.rangeI p.length).dropLast.map V.int)))) :=
        fun b z e => by rw [upd_ne (ne_of_none e hHu)]; exact s5 _ _ e
      refine mp_tail (uu := insI (Pf.rangeI p.length).dropLast ((Pf.rangeI p.length).dropLast.idxOf (ixMax p : Int) + 1) ((p.length : Int) - 1)) (ll := lowI p) s6 ?_ (by rw [upd_ne (Ne.symm hul)]; exact hl5) (fun y hy => ?_) ?_ q
      · rw [upd_same]
        unfold insI
        rw [List.map_append, List.map_append, List.map_take, List.map_drop]
        rfl
      · rw [mem_ins] at hy
        rw [mem_lowI G]
        rcases hy with hy | hy
        · exact (List.dropLast_sublist _).subset hy
        · rw [hy]; exact hAU
      · unfold insI
        rw [List.length_append, List.length_append, List.length_take, List.length_drop, List.length_dropLast, lenU]
        show _ + 1 + _ ≤ 100
        omega
end
end Pd
end

section
set_option linter.all false
set_option maxRecDepth 100000
set_option maxHeartbeats 4000000
/-! _law_is_kept. -/
namespace Pd
open PySem PySem.Spec PyProof.Rows L2 SlX
/-! ### order of tuples -/
theorem code_lexLt {B : Int} : ∀ {a b : List Int}, a.length = b.length → TS.Bd B a → TS.Bd B b → (TS.code B a < TS.code B b ↔ HT.lexLt a b = true)
  | [], [], _, _, _ => by
    rw [HT.lexLt_nil_nil]
    exact ⟨fun h => absurd h (Int.lt_irrefl _), fun h => by cases h⟩
  | [], _ :: _, h, _, _ => by simp at h
  | _ :: _, [], h, _, _ => by simp at h
  | x :: a, y :: b, h, ha, hb => by
    have hl : a.length = b.length := by simpa using h
    rw [HT.lexLt_cons]
    rcases Int.lt_trichotomy x y with c | c | c
    · rw [if_neg (by omega), decide_eq_true c]
      exact ⟨fun _ => rfl, fun _ => TS.code_lt hl ha.tail hb.tail c⟩
    · subst c
      rw [if_pos rfl, TS.code_same hl]
      exact code_lexLt hl ha.tail hb.tail
    · rw [if_neg (by omega), decide_eq_false (by omega)]
      refine ⟨fun z => ?_, fun z => by cases z⟩
      have := TS.code_lt hl.symm hb.tail ha.tail c
      omega
theorem code_inj {B : Int} : ∀ {a b : List Int}, a.length = b.length → TS.Bd B a → TS.Bd B b → TS.code B a = TS.code B b → a = b
  | [], [], _, _, _, _ => rfl
  | [], _ :: _, h, _, _, _ => by simp at h
  | _ :: _, [], h, _, _, _ => by simp at h
  | x :: a, y :: b, h, ha, hb, e => by
    have hl : a.length = b.length := by simpa using h
    rcases Int.lt_trichotomy x y with c | c | c
    · have := TS.code_lt hl ha.tail hb.tail c
      omega
    · subst c
      have e2 : TS.code B a = TS.code B b := by
        have e3 : x * B ^ a.length + TS.code B a = x * B ^ b.length + TS.code B b := e
        rw [hl] at e3
        omega
      rw [code_inj hl ha.tail hb.tail e2]
    · have := TS.code_lt hl.symm hb.tail ha.tail c
      omega
/-- tuples of one length, of small ints -/
def OneL (n : Nat) (cs : List (List Int)) : Prop := ∀ c ∈ cs, c.length = n ∧ TS.Bd 8 c
abbrev lt8 (a b : List Int) : Prop := TS.code 8 a < TS.code 8 b
theorem ascT_cons (a b : List Int) (l : List (List Int)) : ascT (a :: b :: l) = (HT.lexLt a b && ascT (b :: l)) := rfl
theorem ascT_iff {n : Nat} : ∀ {cs : List (List Int)}, OneL n cs → (ascT cs = true ↔ cs.Pairwise lt8)
  | [], _ => ⟨fun _ => .nil, fun _ => rfl⟩
  | [a], _ => ⟨fun _ => List.pairwise_singleton _ _, fun _ => rfl⟩
  | a :: b :: l, h => by
    have ih := ascT_iff (cs := b :: l) fun c hc => h c (List.mem_cons_of_mem _ hc)
    have ha := h a List.mem_cons_self
    have hb := h b (List.mem_cons_of_mem _ List.mem_cons_self)
    rw [ascT_cons, Bool.and_eq_true, ih, ← code_lexLt (ha.1.trans hb.1.symm) ha.2 hb.2]
    refine ⟨fun ⟨h1, h2⟩ => List.pairwise_cons.mpr ⟨fun x hx => ?_, h2⟩, fun z => ⟨(List.pairwise_cons.mp z).1 b List.mem_cons_self, (List.pairwise_cons.mp z).2⟩⟩
    rcases List.mem_cons.mp hx with e | hx
    · rw [e]; exact h1
    · exact Int.lt_trans h1 ((List.pairwise_cons.mp h2).1 x hx)
/-- a list is its own sorted set if it ascends -/
theorem sorted_self {n : Nat} {cs ds : List (List Int)} (hn : OneL n cs) (nd : ds.Nodup) (hm : ∀ x, x ∈ cs ↔ x ∈ ds) (hs : ds.Pairwise fun a b => TS.code 8 a ≤ TS.code 8 b) : decide (cs = ds) = ascT cs := by
  have hd : OneL n ds := fun c hc => hn c ((hm c).mpr hc)
  rw [Bool.eq_iff_iff, decide_eq_true_iff, ascT_iff hn]
  have strict : ds.Pairwise lt8 := by
    refine List.Pairwise.imp_of_mem (R := fun a b => TS.code 8 a ≤ TS.code 8 b ∧ a ≠ b) (fun {a b} ha hb h => ?_) (List.Pairwise.and hs nd)
    rcases Int.lt_or_eq_of_le h.1 with z | z
    · exact z
    · exact absurd (code_inj ((hd a ha).1.trans (hd b hb).1.symm) (hd a ha).2 (hd b hb).2 z) h.2
  refine ⟨fun e => by rw [e]; exact strict, fun hc => ?_⟩
  have nc : cs.Nodup := hc.imp fun {a b} h e => by rw [e] at h; exact absurd h (Int.lt_irrefl _)
  have hp : cs.Perm ds := (List.perm_ext_iff_of_nodup nc nd).mpr hm
  exact hp.eq_of_pairwise (le := fun a b => TS.code 8 a < TS.code 8 b) (fun a b _ _ h1 h2 => absurd (Int.lt_trans h1 h2) (Int.lt_irrefl _)) hc strict
def keptB (n : Nat) (cs : List (List Int)) : Bool := decide (cs ≠ []) && ascT cs && cs.all fun p => wholeL (Pf.rangeI n) p && decide (movedL false p ∈ cs) && decide (movedL true p ∈ cs)
section
variable {P : Program} {w : World} {K : PySem.W.Frag} {mg : Str → Option Value} {base : Heap}
abbrev sKP : Stmt := topS 47
abbrev NKP : List Str := ["_law_times", "_law_value", "_law_places"]
theorem scKP : FnScope NKP ["_law_times", "_law_value"] (defScope sKP) := ⟨rfl, rfl, rfl, by decide +kernel, rfl, by decide +kernel, by decide +kernel⟩
def spKP (K : PySem.W.Frag) : Sp := fun vs H Q _ => ∃ (n : Nat) (a : Addr) (ks : Pe.Pairs) (U : List (List Int)), vs = [.int n, .ref a] ∧ 2 ≤ n ∧ n ≤ 7 ∧ SqT K H a (ks.map Pe.xRef) ∧ Pe.TupsAt K H ks ∧ (∀ p ∈ ks, p.2 ∈ U) ∧ U.length ≤ 76 ∧ ks.length < 64 ∧
  (∀ p ∈ ks, p.2.Perm (Pf.rangeI n)) ∧ (∀ p ∈ ks, wholeL (Pf.rangeI n) p.2 = true → ixMax p.2 + 1 < p.2.length) ∧ ∀ H', Cf.Same H H' → Q (.bl (keptB n (ks.map (·.2)))) H'
theorem ok_law_kept (B : TB mg) (hLW : Cal P w K mg base 1 "_law_is_whole" ["_law_upper", "_law_lower"] (spLW K)) (hMP : Cal P w K mg base 1 "_law_moved_places" ["_law_places", "_law_kind"] (spMP K))
    (D : Dfn K mg "_law_is_kept" sKP ["_law_times", "_law_value"]) : Cal P w K mg base 2 "_law_is_kept" ["_law_times", "_law_value"] (spKP K) := by
  refine D.cal scKP (fun vs H Q E h => ?_) (fun f cdv A outer s H vs Q E hr h => ?_)
  · obtain ⟨n, a, ks, U, rfl, _⟩ := h; rfl
  · obtain ⟨n, a, ks, U, rfl, h2, h7, ha, hk, hU, hU2, h64, hperm, hW, q⟩ := h
    have hu65 : (A.deeper (envOfC "_law_is_kept" (defScope sKP) s.heap.objs.size f cdv)).units + 65 < cLine := by have := hr.un; omega
    refine ⟨_, pss_cons (ps_if (PW.pt (pw_or (pt_cmpR (op_eqD hr.units) (pv 1) (pe_tup pa_nil) (nomark _)) (pw_or1 (pt_cmpR (op_neD hr.units) (pe_callTy call_list_of (by rfl) B.list (by decide +kernel) (pa_cons (pv 1) pa_nil))
          (pe_callB (Pe.cr_sortBag rfl) (by rfl) B.sorted (by decide +kernel) (pa_cons (pe_callTy (Pe.cr_setTT rfl hr.units) (by rfl) B.set (by decide +kernel) (pa_cons (pv 1) pa_nil)) pa_nil)) (nomark _))))) (pss_one (ps_ret pe_bl)) pss_nil)
      (pss_cons (ps_for PassesOwn.never rfl (pi_tup (pv 1)) (pg_name (i := 2) scKP.nd rfl (.inl rfl))
        (pss_cons (ps_if (PW.pt (pw_or (pt_cmpR (op_neD hr.units) (pe_callB Pe.cr_sortTI (by rfl) B.sorted (by decide +kernel) (pa_cons (pv 2) pa_nil)) (pe_listRg rfl (by rfl) B.list (prg_1 (by rfl) B.range (pv 0))) (nomark _))
            (pw_or1 (pt_not (pt_val (pe_cal hLW hr (by decide) (by rfl) (pa_cons (pe_listRg rfl (by rfl) B.list (prg_1 (by rfl) B.range (pv 0))) (pa_cons (pe_callTy call_list_of (by rfl) B.list (by decide +kernel) (pa_cons (pv 2) pa_nil)) pa_nil)))))))) (pss_one (ps_ret pe_bl)) pss_nil)
          (pss_one (ps_if (PW.pt (pw_or (pt_cmpR (Pe.op_notInTT hu65) (pe_cal hMP hr (by decide) (by rfl) (pa_cons (pv 2) (pa_cons pe_str pa_nil))) (pv 1) rfl) (pw_or1 (pt_cmpR (Pe.op_notInTT hu65) (pe_cal hMP hr (by decide) (by rfl) (pa_cons (pv 2) (pa_cons pe_str pa_nil))) (pv 1) rfl)))) (pss_one (ps_ret pe_bl)) pss_nil))))
      (pss_one (ps_ret pe_bl))), ?_⟩
    have haT : ∀ {H' : Hp}, Cf.Same H H' → SqT K H' a (ks.map Pe.xRef) := fun sm => Cf_SqT sm ha
    have hkT : ∀ {H' : Hp}, Cf.Same H H' → Pe.TupsAt K H' ks := fun sm p hp => Cf_SqT sm (hk p hp)
    generalize hcs : ks.map (·.2) = cs at q
    have hone : OneL n cs := fun c hc => by
      rw [← hcs] at hc
      obtain ⟨p, hp, rfl⟩ := List.mem_map.mp hc
      have hpp := hperm p hp
      refine ⟨by rw [hpp.length_eq]; unfold Pf.rangeI; rw [List.length_map, List.length_range], fun x hx => ?_⟩
      obtain ⟨k, hk1, e⟩ := mem_rangeI.mp (hpp.mem_iff.mp hx)
      omega
    refine ⟨.ref a, rfl, Nat.zero_le _, fun T nT => ?_⟩
    have s1 : Cf.Same H (upd H T (.tup [])) := Pf.same_upd nT
    have hev : PyData.eqv (.tuple (cs.map Pe.tupD)) (.tuple []) = decide (cs = []) := by
      simp only [PyData.eqv]
      exact Pe.tups_eqv cs []
    refine ⟨.tuple (cs.map Pe.tupD), .tuple [], .tup (haT s1) (by rw [← hcs]; exact Pe.dpTups (hkT s1)), .tup (.inl (.inl upd_same)) .nil, Pe.tupsD_shaped _, Pe.tupsD_shaped [], _, rfl, ?_⟩
    rw [hev]
    by_cases hnil : cs = []
    · rw [decide_eq_true hnil]
      refine iteT ?_
      have e : keptB n cs = false := by unfold keptB; rw [decide_eq_false (fun z => z hnil)]; rfl
      rw [e] at q
      exact q _ s1
    rw [decide_eq_false hnil]
    refine iteF ?_
    refine ⟨.ref a, rfl, a, _, rfl, .inr (haT s1), fun l nl => ?_⟩
    have s2 := s1.trans (Pf.same_upd (o := .lst (ks.map Pe.xRef)) nl)
    refine ⟨.ref a, rfl, a, ks, U, rfl, haT s2, hkT s2, hU, hU2, fun p L np hsub hcov hnd => ?_⟩
    have s23 := Pf.same_upd (o := Pe.BagO P w p L) np
    have s3 := s2.trans s23
    have hLlen : L.length < 64 := by
      have h1 := Pe.nodup_le (L.map (·.2)) (ks.map (·.2)) hnd fun x hx => by
        obtain ⟨y, hy, rfl⟩ := List.mem_map.mp hx
        exact List.mem_map_of_mem (hsub y hy)
      rw [List.length_map, List.length_map] at h1
      omega
    have hLT : Pe.TupsAt K (upd (upd (upd H T (.tup [])) l (.lst (ks.map Pe.xRef))) p (Pe.BagO P w p L)) L := fun y hy => hkT s3 y (hsub y hy)
    refine ⟨p, L, n, 8, rfl, upd_same, hLT, hLlen, by omega, fun y hy => hone y.2 (by rw [← hcs]; exact List.mem_map_of_mem (hsub y hy)), fun L' r hp hnd' hs nr => ?_⟩
    have s34 := Pf.same_upd (o := .lst (L'.map Pe.xRef)) nr
    have s4 := s3.trans s34
    have hmm : ∀ x, x ∈ cs ↔ x ∈ L'.map (·.2) := fun x => by
      rw [(hp.map (·.2)).mem_iff, ← hcs]
      refine ⟨fun hx => ?_, fun hx => ?_⟩
      · obtain ⟨y, hy, rfl⟩ := List.mem_map.mp hx
        exact hcov y hy
      · obtain ⟨y, hy, rfl⟩ := List.mem_map.mp hx
        exact List.mem_map_of_mem (hsub y hy)
    have hself := sorted_self hone hnd' hmm (List.pairwise_map.mpr hs)
    refine ⟨.list (cs.map Pe.tupD), .list ((L'.map fun (y : Addr × List Int) => y.2).map Pe.tupD), .lst (.inl (.inl (s34 _ _ (s23 _ _ upd_same)))) (by rw [← hcs]; exact Pe.dpTups (hkT s4)), .lst (.inl (.inl upd_same)) (Pe.dpTups fun y hy => Cf_SqT s34 (hLT y (hp.mem_iff.mp hy))), Pe.listD_shaped _, Pe.listD_shaped _, _, rfl, ?_⟩
    rw [Pe.list_eqv, hself]
    generalize upd (upd (upd (upd H T (.tup [])) l (.lst (ks.map Pe.xRef))) p (Pe.BagO P w p L)) r (.lst (L'.map Pe.xRef)) = H4 at s4
    cases hasc : ascT cs with
    | false =>
      refine iteT ?_
      have e : keptB n cs = false := by unfold keptB; rw [hasc, Bool.and_false]; rfl
      rw [e] at q
      exact q _ s4
    | true =>
    refine iteF ?_
    let F : List Int → Bool := fun p => wholeL (Pf.rangeI n) p && decide (movedL false p ∈ cs) && decide (movedL true p ∈ cs)
    have eK : keptB n cs = cs.all F := by
      unfold keptB
      rw [hasc, decide_eq_true hnil]; rfl
    have hl : cs.length = ks.length := by rw [← hcs, List.length_map]
    refine ⟨.ref a, rfl, a, rfl, ⟨_, haT s4⟩, ?_⟩
    refine for_inv (n := ks.length) (fun i σ H' => ∃ y2, σ = [some (.int (n : Nat)), some (.ref a), y2] ∧ Cf.Same H H' ∧ (cs.take i).all F = true)
      ⟨none, rfl, s4, rfl⟩ (fun σ H' hv => ?_) (fun i σ H' hi hv => ?_) (fun i σ H' x H'' Nx hi hv hy hN => ?_)
    · obtain ⟨y2, rfl, sm, hall⟩ := hv
      refine ⟨⟨_, haT sm, by rw [List.length_map]; exact Nat.le_refl _⟩, ?_⟩
      rw [List.take_of_length_le (by omega)] at hall
      rw [eK, hall] at q
      exact q _ sm
    · obtain ⟨y2, rfl, sm, hall⟩ := hv
      exact ⟨_, Pe.xRef ks[i], haT sm, by rw [List.getElem?_map, List.getElem?_eq_getElem hi]; rfl⟩
    · obtain ⟨y2, rfl, sm, hall⟩ := hv
      obtain ⟨rfl, hx⟩ := hy
      have ex : x = Pe.xRef ks[i] := by
        have := hx _ (haT sm)
        rw [List.getElem?_map, List.getElem?_eq_getElem hi] at this
        exact (Option.some.inj this).symm
      subst ex
      have hmem : ks[i] ∈ ks := List.getElem_mem hi
      have hkk : ks[i]? = some ks[i] := List.getElem?_eq_getElem hi
      obtain ⟨t, p, ekp⟩ : ∃ t p, ks[i] = (t, p) := ⟨_, _, rfl⟩
      rw [ekp] at hmem hkk ⊢
      have hpe := hperm (t, p) hmem
      have hcsi : cs[i]? = some p := by rw [← hcs, List.getElem?_map, hkk]; rfl
      have hpl : p.length = n := (hone p (List.mem_of_getElem? hcsi)).1
      have hbad : F p = false → ∀ H', Cf.Same H H' → Q (.bl false) H' := fun hF H' sm => by
        have e : cs.all F = false := by
          rw [Bool.eq_false_iff]
          intro z
          have := List.all_eq_true.mp z p (List.mem_of_getElem? hcsi)
          rw [hF] at this
          cases this
        rw [eK, e] at q
        exact q _ sm
      have hT : ∀ {H' : Hp}, Cf.Same H H' → SqT K H' t (p.map V.int) := fun sm => hkT sm (t, p) hmem
      refine ⟨.ref t, rfl, t, p, rfl, hT sm, by omega, fun ns' r hp2 hs2 nr2 => ?_⟩
      have s5 := sm.trans (Pf.same_upd (o := .lst (ns'.map V.int)) nr2)
      refine ⟨.int (n : Nat), rfl, (n : Int), rfl, RgOk.of_le (by omega) (by omega) (by omega) (by omega), fun l5 nl5 => ?_⟩
      have s56 := Pf.same_upd (o := .lst (rgV 0 (n : Int))) nl5
      have s6 := s5.trans s56
      refine ⟨.list (Pe.intsD ns'), .list (Pe.intsD (Pf.rangeI n)), Pe.dpListI (.inl (.inl (s56 _ _ upd_same))), Pe.dpListI (.inl (.inl (by rw [upd_same, Pf.rgV_range]))), Pe.listI_shaped _, Pe.listI_shaped _, _, rfl, ?_⟩
      have hsi := sorted_is hp2 hs2
      rw [hpl, (show permR p = true from by unfold permR; rw [hpl]; exact List.isPerm_iff.mpr hpe)] at hsi
      rw [Pe.listI_eqv, hsi]
      refine iteF ?_
      refine ⟨.int (n : Nat), rfl, (n : Int), rfl, RgOk.of_le (by omega) (by omega) (by omega) (by omega), fun l6 nl6 => ?_⟩
      have s67 := Pf.same_upd (o := .lst (rgV 0 (n : Int))) nl6
      have s7 := s6.trans s67
      refine ⟨.ref t, rfl, t, _, rfl, .inr (hT s7), fun l7 nl7 => ?_⟩
      have s78 := Pf.same_upd (o := .lst (p.map V.int)) nl7
      have s8 := s7.trans s78
      have lenR : (Pf.rangeI n).length = n := by unfold Pf.rangeI; rw [List.length_map, List.length_range]
      refine ⟨l6, l7, Pf.rangeI n, p, rfl, .inl (.inl (by rw [← Pf.rgV_range]; exact s78 _ _ upd_same)), .inl (.inl upd_same), by omega, by omega, fun H9 s9 => ⟨_, rfl, ?_⟩⟩
      have s10 := s8.trans s9
      cases hw : wholeL (Pf.rangeI n) p with
      | false =>
        refine iteT ?_
        exact hbad (by show (wholeL (Pf.rangeI n) p && decide (movedL false p ∈ cs) && decide (movedL true p ∈ cs)) = false; rw [hw]; rfl) _ s10
      | true =>
      refine iteF ?_
      have G : GoodP p := ⟨by omega, by omega, by rw [hpl]; exact hpe⟩
      have hix := hW (t, p) hmem hw
      refine ⟨.ref t, rfl, t, p, false, rfl, hT s10, G, hix, fun H11 r1 s11 hr1 => ?_⟩
      have s12 := s10.trans s11
      refine ⟨.ref a, rfl, r1, a, movedL false p, ks, rfl, rfl, .inl (.inl hr1), haT s12, hkT s12, _, rfl, ?_⟩
      rw [hcs]
      cases hm1 : decide (movedL false p ∈ cs) with
      | false =>
        refine iteT ?_
        exact hbad (by show (wholeL (Pf.rangeI n) p && decide (movedL false p ∈ cs) && decide (movedL true p ∈ cs)) = false; rw [hm1, Bool.and_false]; rfl) _ s12
      | true =>
      refine iteF ?_
      refine ⟨.ref t, rfl, t, p, true, rfl, hT s12, G, hix, fun H13 r2 s13 hr2 => ?_⟩
      have s14 := s12.trans s13
      refine ⟨.ref a, rfl, r2, a, movedL true p, ks, rfl, rfl, .inl (.inl hr2), haT s14, hkT s14, _, rfl, ?_⟩
      rw [hcs]
      cases hm2 : decide (movedL true p ∈ cs) with
      | false =>
        refine iteT ?_
        exact hbad (by show (wholeL (Pf.rangeI n) p && decide (movedL false p ∈ cs) && decide (movedL true p ∈ cs)) = false; rw [hm2, Bool.and_false]) _ s14
      | true =>
      refine iteF ?_
      refine hN _ _ ⟨_, rfl, s14, ?_⟩
      rw [List.take_add_one, hcsi, List.all_append, hall]
      show (true && (F p && true)) = true
      rw [Bool.true_and, Bool.and_true]
      show (wholeL (Pf.rangeI n) p && decide (movedL false p ∈ cs) && decide (movedL true p ∈ cs)) = true
      rw [hw, hm1, hm2]; rfl
end
end Pd
end

section
set_option linter.all false
set_option maxRecDepth 100000
set_option maxHeartbeats 4000000
/-! _law_other. -/
namespace Pd
open PySem PySem.Spec PyProof.Rows L2 SlX
section
variable {X : Cx}
/-- a tuple and a tuple, end to end -/
def rCatS (K : PySem.W.Frag) : R2 := fun x y H Q => ∃ a b xs ys, x = .ref a ∧ y = .ref b ∧ SqT K H a xs ∧ SqT K H b ys ∧ xs.length + ys.length ≤ sizeLine ∧ ∀ p H', Cf.Same H H' → SqT K H' p (xs ++ ys) → Q (.ref p) H'
theorem op_catS : OpR X (binaryOp .Add) (rCatS X.K) := by
  intro pins s σ H x y v u Q I rx ry h
  obtain ⟨a, b, xs, ys, rfl, rfl, ha, hb, hz, q⟩ := h
  refine op_catA pins s σ H (.ref a) (.ref b) v u Q I rx ry ⟨a, b, xs, ys, rfl, rfl, ha, hb, hz, fun e => ?_, fun _ e => ?_, fun _ _ p np => ?_⟩
  · subst e; exact q b H (Cf.Same.refl _) hb
  · subst e; exact q a H (Cf.Same.refl _) (by rw [List.append_nil]; exact ha)
  · exact q p _ (Pf.same_upd np) (.inl (.inl upd_same))
/-- a slice of a tuple -/
def rSlS' (K : PySem.W.Frag) : V → Option Int → Option Int → Hp → VK → Prop := fun x lo hi H Q => ∃ a xs, x = .ref a ∧ SqT K H a xs ∧ ∀ p H', Cf.Same H H' → SqT K H' p (cutV xs lo hi) → Q (.ref p) H'
theorem sl_tupS : SlR X (rSlS' X.K) := by
  intro pins s σ H x v vl vu lo hi sl Q I rx hs pl pu h
  obtain ⟨a, xs, rfl, hx, q⟩ := h
  refine sl_tupA pins s σ H (.ref a) v vl vu lo hi sl Q I rx hs pl pu ⟨a, xs, rfl, hx, fun e => ?_, fun _ p np => ?_⟩
  · refine q a H (Cf.Same.refl _) ?_
    unfold cutV
    rw [e.1, e.2, List.drop_zero, Nat.sub_zero, List.take_length]
    exact hx
  · exact q p _ (Pf.same_upd np) (.inl (.inl upd_same))
end
theorem SqT_b {K : PySem.W.Frag} {d a : Addr} {H H' : Hp} {xs : List V} (hd : IsDice H d) (sm : SameB d H H') (h : SqT K H a xs) : SqT K H' a xs := by
  obtain ⟨x, y, z, hd⟩ := hd
  rcases h with (h | ⟨o, h⟩) | h
  · exact .inl (.inl (sm _ _ (fun e => by rw [e, hd] at h; cases h) h))
  · exact .inl (.inr ⟨o, sm _ _ (fun e => by rw [e, hd] at h; cases h) h⟩)
  · exact .inr h
theorem FT_b {d a : Addr} {H H' : Hp} {xs : List V} (hd : IsDice H d) (sm : SameB d H H') (h : Pe.FT H a xs) : Pe.FT H' a xs := by
  obtain ⟨x, y, z, hd⟩ := hd
  obtain ⟨o, h, e2⟩ := h
  exact ⟨o, sm _ _ (fun e => by rw [e, hd] at h; cases h) h, e2⟩
theorem SameB.same {d : Addr} {H H' H'' : Hp} (h1 : SameB d H H') (h2 : Cf.Same H' H'') : SameB d H H'' := fun b u n e => h2 _ _ (h1 b u n e)
theorem SameB.trans {d : Addr} {H H' H'' : Hp} (h1 : SameB d H H') (h2 : SameB d H' H'') : SameB d H H'' := fun b u n e => h2 _ _ n (h1 b u n e)
theorem IsDice.to {d : Addr} {H H' : Hp} (sm : Cf.Same H H') (h : IsDice H d) : IsDice H' d := let ⟨x, y, z, e⟩ := h; ⟨x, y, z, sm _ _ e⟩
/-- a tuple of permutations -/
structure ValAt (K : PySem.W.Frag) (H : Hp) (n : Nat) (t : Addr) (ks : Pe.Pairs) : Prop where
  sq : SqT K H t (ks.map Pe.xRef)
  el : ∀ q ∈ ks, Pe.FT H q.1 (q.2.map V.int)
  pm : ∀ q ∈ ks, q.2.Perm (Pf.rangeI n)
theorem ValAt.to {K : PySem.W.Frag} {H H' : Hp} {n : Nat} {t : Addr} {ks : Pe.Pairs} (sm : Cf.Same H H') (h : ValAt K H n t ks) : ValAt K H' n t ks := ⟨Cf_SqT sm h.sq, fun q hq => FT_to sm (h.el q hq), h.pm⟩
theorem ValAt.b {K : PySem.W.Frag} {d : Addr} {H H' : Hp} {n : Nat} {t : Addr} {ks : Pe.Pairs} (hd : IsDice H d) (sm : SameB d H H') (h : ValAt K H n t ks) : ValAt K H' n t ks := ⟨SqT_b hd sm h.sq, fun q hq => FT_b hd sm (h.el q hq), h.pm⟩
theorem ValAt.tups {K : PySem.W.Frag} {H : Hp} {n : Nat} {t : Addr} {ks : Pe.Pairs} (h : ValAt K H n t ks) : Pe.TupsAt K H ks := fun p hp => (h.el p hp).sqT
theorem perm_one {n : Nat} (hn : n ≤ 7) {p : List Int} (h : p.Perm (Pf.rangeI n)) : p.length = n ∧ TS.Bd 8 p := by
  refine ⟨by rw [h.length_eq]; unfold Pf.rangeI; rw [List.length_map, List.length_range], fun x hx => ?_⟩
  obtain ⟨k, hk1, e⟩ := mem_rangeI.mp (h.mem_iff.mp hx)
  omega
theorem cut_takeR {ks : Pe.Pairs} {i : Nat} (h : i ≤ ks.length) : cutV (ks.map Pe.xRef) none (some (i : Int)) = (ks.take i).map Pe.xRef := by rw [Pf.cut_take _ i (by rw [List.length_map]; exact h), List.map_take]
theorem cut_dropR {ks : Pe.Pairs} {i : Nat} (h : i ≤ ks.length) : cutV (ks.map Pe.xRef) (some (i : Int)) none = (ks.drop i).map Pe.xRef := by rw [Pf.cut_drop _ i (by rw [List.length_map]; exact h), List.map_drop]
section
variable {P : Program} {w : World} {K : PySem.W.Frag} {mg : Str → Option Value} {base : Heap}
abbrev sLO : Stmt := topS 48
abbrev NLO : List Str := ["_law_dice_here", "_law_times", "_law_value", "_law_way", "_law_at", "_law_places"]
theorem scLO : FnScope NLO ["_law_dice_here", "_law_times", "_law_value"] (defScope sLO) := ⟨rfl, rfl, rfl, by decide +kernel, rfl, by decide +kernel, by decide +kernel⟩
def spLO (K : PySem.W.Frag) : Sp := fun vs H Q _ => ∃ (d : Addr) (n : Nat) (a : Addr) (ks : Pe.Pairs), vs = [.ref d, .int n, .ref a] ∧ IsDice H d ∧ 2 ≤ n ∧ n ≤ 7 ∧ ValAt K H n a ks ∧ 0 < ks.length ∧ ks.length ≤ 60 ∧
  ∀ H' t ks', SameB d H H' → IsDice H' d → ValAt K H' n t ks' → ks'.length < 64 → Q (.ref t) H'
theorem ok_law_other (B : TB mg) (hLR : Cal P w K mg base 1 "_law_roll" ["_law_dice_here", "_law_total"] spLR) (hLM : Cal P w K mg base 2 "_law_mixed" ["_law_dice_here", "_law_items"] spLM)
    (D : Dfn K mg "_law_other" sLO ["_law_dice_here", "_law_times", "_law_value"]) : Cal P w K mg base 3 "_law_other" ["_law_dice_here", "_law_times", "_law_value"] (spLO K) := by
  refine D.cal scLO (fun vs H Q E h => ?_) (fun f cdv A outer s H vs Q E hr h => ?_)
  · obtain ⟨d, n, a, ks, rfl, _⟩ := h; rfl
  · obtain ⟨d, n, a, ks, rfl, hd, h2, h7, V0, hk0, hk60, q⟩ := h
    refine ⟨_, pss_cons (ps_par (i := 3) (j := 4) (by rfl) scLO.nd rfl rfl (by decide) rfl rfl (pa_cons (pe_cal hLR hr (by decide) (by rfl) (pa_cons (pv 0) (pa_cons pe_int pa_nil))) (pa_cons (pe_cal hLR hr (by decide) (by rfl) (pa_cons (pv 0) (pa_cons (pe_callB call_len_seq (by rfl) B.len PySem.boot_len (pa_cons (pv 2) pa_nil)) pa_nil))) pa_nil)) (by rfl))
      (pss_cons (ps_if (pt_cmpR op_eq (pv 3) pe_int (nomark _)) (pss_one (ps_ret (pe_op op_catS (pe_slice sl_tupS (pv 2) po_none (po_some (pv 4))) (pe_slice sl_tupS (pv 2) (po_some (pe_op op_add (pv 4) pe_int)) po_none)))) pss_nil)
      (pss_cons (ps_if (pt_cmpR op_eq (pv 3) pe_int (nomark _)) (pss_one (ps_ret (pe_op op_catS (pe_op op_catS (pe_slice sl_tupS (pv 2) po_none (po_some (pv 4))) (pe_tup (pa_cons (pe_ix ix_tup (pv 2) (pv 4) (fun _ _ => rfl)) pa_nil))) (pe_slice sl_tupS (pv 2) (po_some (pv 4)) po_none)))) pss_nil)
      (pss_cons (ps_if (pt_cmpR op_eq (pv 3) pe_int (nomark _)) (pss_one (ps_ret (Pe.pe_rev (pv 2) (pe_un un_neg pe_int)))) pss_nil)
      (pss_cons (ps_set (i := 5) scLO.nd rfl (.inl rfl) (pe_callTy Pe.call_tupleF (by rfl) B.tuple (by decide +kernel) (pa_cons (pe_cal hLM hr (by decide) (by rfl) (pa_cons (pv 0) (pa_cons (pe_listRg rfl (by rfl) B.list (prg_1 (by rfl) B.range (pv 1))) pa_nil))) pa_nil)))
      (pss_cons (ps_if (pt_cmpR op_eq (pv 3) pe_int (nomark _)) (pss_one (ps_ret (pe_callTy Pe.call_tupleF (by rfl) B.tuple (by decide +kernel) (pa_cons (pe_callB (Pe.cr_sortBag rfl) (by rfl) B.sorted (by decide +kernel) (pa_cons
          (pe_callTy (Pe.cr_setTT rfl hr.units) (by rfl) B.set (by decide +kernel) (pa_cons (pe_op op_catS (pv 2) (pe_tup (pa_cons (pv 5) pa_nil))) pa_nil)) pa_nil)) pa_nil)))) pss_nil)
      (pss_one (ps_ret (pe_callTy Pe.call_tupleF (by rfl) B.tuple (by decide +kernel) (pa_cons (pe_callB Pe.cr_sortTT (by rfl) B.sorted (by decide +kernel) (pa_cons
          (pe_op op_catS (pe_op op_catS (pe_slice sl_tupS (pv 2) po_none (po_some (pv 4))) (pe_tup (pa_cons (pv 5) pa_nil))) (pe_slice sl_tupS (pv 2) (po_some (pe_op op_add (pv 4) pe_int)) po_none)) pa_nil)) pa_nil))))))))), ?_⟩
    refine ⟨.ref d, rfl, d, 5, rfl, hd, by omega, by omega, fun H1 r sm1 _ hd1 hr5 => ?_⟩
    have V1 := V0.b hd sm1
    refine ⟨.ref d, rfl, .ref a, rfl, a, _, rfl, .inr V1.sq, d, ks.length, by rw [List.length_map]; rfl, hd1, hk0, by omega, fun H2 at_ sm2 _ hd2 hat => ?_⟩
    have V2 := V1.b hd1 sm2
    have sB := sm1.trans sm2
    refine ⟨_, _, rfl, ?_⟩
    have big : ∀ m : Nat, m < 1000 → m ≤ sizeLine := fun m hm => Nat.le_of_lt (Pf.small1000' (by omega))
    have fin : ∀ (H' : Hp) (t : Addr) (ks' : Pe.Pairs), Cf.Same H2 H' → SqT K H' t (ks'.map Pe.xRef) → (∀ q ∈ ks', q ∈ ks) → ks'.length < 64 → Q (.ref t) H' := fun H' t ks' sm ht hs hl =>
      q H' t ks' (sB.same sm) (hd2.to sm) ⟨ht, fun y hy => FT_to sm (V2.el y (hs y hy)), fun y hy => V2.pm y (hs y hy)⟩ hl
    have eqB : ∀ k : Nat, decide (V.int (r : Int) = V.int (k : Int)) = decide (r = k) := fun k => by rw [dec_int, Bool.eq_iff_iff, beq_iff_eq, decide_eq_true_iff]; omega
    refine ⟨.int (r : Int), rfl, rfl, _, rfl, ?_⟩
    rw [show (0 : Int) = ((0 : Nat) : Int) from rfl, eqB 0]
    refine ite2 (fun e0 => ?_) (fun e0 => ?_)
    · refine ⟨.ref a, rfl, .int (at_ : Int), rfl, (at_ : Int), rfl, a, _, rfl, V2.sq, fun p3 H3 sm3 hp3 => ?_⟩
      refine ⟨.ref a, rfl, .int (at_ : Int), rfl, (at_ : Int), 1, rfl, rfl, ((at_ : Int) + 1), rfl, a, _, rfl, Cf_SqT sm3 V2.sq, fun p4 H4 sm4 hp4 => ?_⟩
      rw [cut_takeR (by omega)] at hp3
      rw [show ((at_ : Int) + 1) = ((at_ + 1 : Nat) : Int) from by omega, cut_dropR (by omega)] at hp4
      refine ⟨p3, p4, _, _, rfl, rfl, Cf_SqT sm4 hp3, hp4, ?_, fun p5 H5 sm5 hp5 => ?_⟩
      · rw [List.length_map, List.length_map, List.length_take, List.length_drop]
        exact big _ (by omega)
      · rw [← List.map_append] at hp5
        refine fin H5 p5 (ks.take at_ ++ ks.drop (at_ + 1)) ((sm3.trans sm4).trans sm5) hp5 (fun y hy => ?_) (by rw [List.length_append, List.length_take, List.length_drop]; omega)
        rcases List.mem_append.mp hy with h | h
        · exact List.mem_of_mem_take h
        · exact List.mem_of_mem_drop h
    refine ⟨.int (r : Int), rfl, rfl, _, rfl, ?_⟩
    rw [show (1 : Int) = ((1 : Nat) : Int) from rfl, eqB 1]
    refine ite2 (fun e1 => ?_) (fun e1 => ?_)
    · refine ⟨.ref a, rfl, .int (at_ : Int), rfl, (at_ : Int), rfl, a, _, rfl, V2.sq, fun p3 H3 sm3 hp3 => ?_⟩
      rw [cut_takeR (by omega)] at hp3
      have hel : (ks.map Pe.xRef)[at_]? = some (Pe.xRef ks[at_]) := by rw [List.getElem?_map, List.getElem?_eq_getElem hat]; rfl
      refine ⟨.ref a, rfl, .int (at_ : Int), rfl, a, _, (at_ : Int), Pe.xRef ks[at_], rfl, rfl, Cf_SqT sm3 V2.sq, atI_nat hel, by show 1 ≤ sizeLine; decide, fun T nT => ?_⟩
      have sT := Pf.same_upd (o := .tup [Pe.xRef ks[at_]]) nT
      refine ⟨p3, T, _, _, rfl, rfl, Cf_SqT sT hp3, .inl (.inl upd_same), ?_, fun p5 H5 sm5 hp5 => ?_⟩
      · rw [List.length_map, List.length_take]
        exact big _ (by show _ + 1 < 1000; omega)
      have s35 := (sm3.trans sT).trans sm5
      refine ⟨.ref a, rfl, .int (at_ : Int), rfl, (at_ : Int), rfl, a, _, rfl, Cf_SqT s35 V2.sq, fun p6 H6 sm6 hp6 => ?_⟩
      rw [cut_dropR (by omega)] at hp6
      refine ⟨p5, p6, _, _, rfl, rfl, Cf_SqT sm6 hp5, hp6, ?_, fun p7 H7 sm7 hp7 => ?_⟩
      · rw [List.length_append, List.length_map, List.length_take, List.length_map, List.length_drop]
        exact big _ (by show _ + 1 + _ < 1000; omega)
      · have em : (ks.take at_).map Pe.xRef ++ [Pe.xRef ks[at_]] ++ (ks.drop at_).map Pe.xRef = (ks.take at_ ++ [ks[at_]] ++ ks.drop at_).map Pe.xRef := by rw [List.map_append, List.map_append]; rfl
        rw [em] at hp7
        refine fin H7 p7 _ ((s35.trans sm6).trans sm7) hp7 (fun y hy => ?_) (by rw [List.length_append, List.length_append, List.length_take, List.length_drop]; show _ + 1 + _ < 64; omega)
        rcases List.mem_append.mp hy with h | h
        · rcases List.mem_append.mp h with h | h
          · exact List.mem_of_mem_take h
          · rw [List.mem_singleton.mp h]; exact List.getElem_mem _
        · exact List.mem_of_mem_drop h
    refine ⟨.int (r : Int), rfl, rfl, _, rfl, ?_⟩
    rw [show (2 : Int) = ((2 : Nat) : Int) from rfl, eqB 2]
    refine ite2 (fun e2 => ?_) (fun e2 => ?_)
    · refine ⟨.ref a, rfl, 1, rfl, rfl, a, _, rfl, .inl ⟨V2.sq, fun p3 o np od => ?_⟩⟩
      rw [← List.map_reverse]
      exact fin _ p3 ks.reverse (Pf.same_upd np) (.inl (.inr ⟨o, upd_same⟩)) (fun y hy => List.mem_reverse.mp hy) (by rw [List.length_reverse]; omega)
    refine ⟨.ref d, rfl, .int (n : Int), rfl, (n : Int), rfl, RgOk.of_le (by omega) (by omega) (by omega) (by omega), fun l nl => ?_⟩
    have s3 := Pf.same_upd (o := .lst (rgV 0 (n : Int))) nl
    have hd3 := hd2.to s3
    have hld : l ≠ d := fun e => by
      obtain ⟨x, y, z, hdd⟩ := hd2
      rw [← e, nl] at hdd; cases hdd
    have lenR : (Pf.rangeI n).length = n := by unfold Pf.rangeI; rw [List.length_map, List.length_range]
    refine ⟨d, l, Pf.rangeI n, rfl, hd3, by rw [upd_same, Pf.rgV_range], hld, by omega, fun H4 lp ms sm4 hd4 nlp hlp hms => ?_⟩
    refine ⟨lp, _, rfl, .inl (.inl hlp), fun pp o npp od => ?_⟩
    have s45 := Pf.same_upd (o := HO.frz o (.tup (ms.map V.int))) npp
    have sB5 : SameB d H2 (upd H4 pp (HO.frz o (.tup (ms.map V.int)))) := fun b u nb e => s45 _ _ (sm4 b u nb (s3 _ _ e))
    have hd5 := hd4.to s45
    have V5 := V2.b hd2 sB5
    have hpp : Pe.FT (upd H4 pp (HO.frz o (.tup (ms.map V.int)))) pp (ms.map V.int) := ⟨o, upd_same, od⟩
    generalize upd H4 pp (HO.frz o (.tup (ms.map V.int))) = H5 at sB5 hd5 V5 hpp ⊢
    have sBB := sB.trans sB5
    have fin2 : ∀ (H' : Hp) (t : Addr) (ks' : Pe.Pairs), Cf.Same H5 H' → SqT K H' t (ks'.map Pe.xRef) → (∀ q ∈ ks', q ∈ ks ∨ q = (pp, ms)) → ks'.length < 64 → Q (.ref t) H' := fun H' t ks' sm ht hs hl =>
      q H' t ks' (sBB.same sm) (hd5.to sm) ⟨ht, fun y hy => by
        rcases hs y hy with h | h
        · exact FT_to sm (V5.el y h)
        · rw [h]; exact FT_to sm hpp, fun y hy => by
        rcases hs y hy with h | h
        · exact V5.pm y h
        · rw [h]; exact hms⟩ hl
    refine ⟨.int (r : Int), rfl, rfl, _, rfl, ?_⟩
    rw [show (3 : Int) = ((3 : Nat) : Int) from rfl, eqB 3]
    refine ite2 (fun e3 => ?_) (fun e3 => ?_)
    · refine ⟨.ref a, rfl, .ref pp, rfl, by show 1 ≤ sizeLine; decide, fun T nT => ?_⟩
      have sT := Pf.same_upd (o := .tup [V.ref pp]) nT
      refine ⟨a, T, _, _, rfl, rfl, Cf_SqT sT V5.sq, .inl (.inl upd_same), ?_, fun p6 H6 sm6 hp6 => ?_⟩
      · rw [List.length_map]
        exact big _ (by show _ + 1 < 1000; omega)
      have em : ks.map Pe.xRef ++ [V.ref pp] = (ks ++ [(pp, ms)]).map Pe.xRef := by rw [List.map_append]; rfl
      rw [em] at hp6
      have s6 := sT.trans sm6
      have hin : ∀ y ∈ ks ++ [(pp, ms)], y ∈ ks ∨ y = (pp, ms) := fun y hy => by
        rcases List.mem_append.mp hy with h | h
        · exact .inl h
        · exact .inr (List.mem_singleton.mp h)
      have hT6 : Pe.TupsAt K H6 (ks ++ [(pp, ms)]) := fun y hy => by
        rcases hin y hy with h | h
        · exact Cf_SqT s6 (V5.tups y h)
        · rw [h]; exact Cf_SqT s6 hpp.sqT
      refine ⟨p6, ks ++ [(pp, ms)], (ks ++ [(pp, ms)]).map (·.2), rfl, hp6, hT6, fun y hy => List.mem_map_of_mem hy, by rw [List.length_map, List.length_append]; show _ + 1 ≤ 76; omega, fun p7 L np7 hsub hcov hnd => ?_⟩
      have s7 := Pf.same_upd (o := Pe.BagO P w p7 L) np7
      have hLlen : L.length < 64 := by
        have h1 := Pe.nodup_le (L.map (·.2)) ((ks ++ [(pp, ms)]).map (·.2)) hnd fun x hx => by
          obtain ⟨y, hy, rfl⟩ := List.mem_map.mp hx
          exact List.mem_map_of_mem (hsub y hy)
        rw [List.length_map, List.length_map, List.length_append] at h1
        have : L.length ≤ ks.length + 1 := h1
        omega
      refine ⟨p7, L, n, 8, rfl, upd_same, fun y hy => Cf_SqT s7 (hT6 y (hsub y hy)), hLlen, by omega, fun y hy => ?_, fun L' r8 hp8 _ _ nr8 => ?_⟩
      · rcases hin y (hsub y hy) with h | h
        · exact perm_one h7 (V5.pm y h)
        · rw [h]; exact perm_one h7 hms
      have s8 := Pf.same_upd (o := .lst (L'.map Pe.xRef)) nr8
      refine ⟨r8, _, rfl, .inl (.inl upd_same), fun t o9 nt od9 => ?_⟩
      have s9 := Pf.same_upd (o := HO.frz o9 (.tup (L'.map Pe.xRef))) nt
      exact fin2 _ t L' (((s6.trans s7).trans s8).trans s9) (.inl (.inr ⟨o9, upd_same⟩)) (fun y hy => hin y (hsub y (hp8.mem_iff.mp hy))) (by rw [hp8.length_eq]; exact hLlen)
    · refine ⟨.ref a, rfl, .int (at_ : Int), rfl, (at_ : Int), rfl, a, _, rfl, V5.sq, fun p6 H6 sm6 hp6 => ?_⟩
      rw [cut_takeR (by omega)] at hp6
      refine ⟨.ref pp, rfl, by show 1 ≤ sizeLine; decide, fun T nT => ?_⟩
      have sT := Pf.same_upd (o := .tup [V.ref pp]) nT
      refine ⟨p6, T, _, _, rfl, rfl, Cf_SqT sT hp6, .inl (.inl upd_same), ?_, fun p7 H7 sm7 hp7 => ?_⟩
      · rw [List.length_map, List.length_take]
        exact big _ (by show _ + 1 < 1000; omega)
      have s7 := (sm6.trans sT).trans sm7
      refine ⟨.ref a, rfl, .int (at_ : Int), rfl, (at_ : Int), 1, rfl, rfl, ((at_ : Int) + 1), rfl, a, _, rfl, Cf_SqT s7 V5.sq, fun p8 H8 sm8 hp8 => ?_⟩
      rw [show ((at_ : Int) + 1) = ((at_ + 1 : Nat) : Int) from by omega, cut_dropR (by omega)] at hp8
      refine ⟨p7, p8, _, _, rfl, rfl, Cf_SqT sm8 hp7, hp8, ?_, fun p9 H9 sm9 hp9 => ?_⟩
      · rw [List.length_append, List.length_map, List.length_take, List.length_map, List.length_drop]
        exact big _ (by show _ + 1 + _ < 1000; omega)
      have em : (ks.take at_).map Pe.xRef ++ [V.ref pp] ++ (ks.drop (at_ + 1)).map Pe.xRef = (ks.take at_ ++ [(pp, ms)] ++ ks.drop (at_ + 1)).map Pe.xRef := by rw [List.map_append, List.map_append]; rfl
      rw [em] at hp9
      have s9 := (s7.trans sm8).trans sm9
      have hin : ∀ y ∈ ks.take at_ ++ [(pp, ms)] ++ ks.drop (at_ + 1), y ∈ ks ∨ y = (pp, ms) := fun y hy => by
        rcases List.mem_append.mp hy with h | h
        · rcases List.mem_append.mp h with h | h
          · exact .inl (List.mem_of_mem_take h)
          · exact .inr (List.mem_singleton.mp h)
        · exact .inl (List.mem_of_mem_drop h)
      have hlen : (ks.take at_ ++ [(pp, ms)] ++ ks.drop (at_ + 1)).length < 64 := by
        rw [List.length_append, List.length_append, List.length_take, List.length_drop]; show _ + 1 + _ < 64; omega
      refine ⟨p9, _, n, 8, rfl, hp9, hlen, by omega, fun y hy => ?_, fun L' r10 hpL _ nr => ?_⟩
      · rcases hin y hy with h | h
        · exact ⟨Cf_SqT s9 (V5.tups y h), perm_one h7 (V5.pm y h)⟩
        · rw [h]; exact ⟨Cf_SqT s9 hpp.sqT, perm_one h7 hms⟩
      have s10 := Pf.same_upd (o := .lst (L'.map Pe.xRef)) nr
      refine ⟨r10, _, rfl, .inl (.inl upd_same), fun t o11 nt od11 => ?_⟩
      have s11 := Pf.same_upd (o := HO.frz o11 (.tup (L'.map Pe.xRef))) nt
      exact fin2 _ t L' ((s9.trans s10).trans s11) (.inl (.inr ⟨o11, upd_same⟩)) (fun y hy => hin y (hpL.mem_iff.mp hy)) (by rw [hpL.length_eq]; exact hlen)
end
end Pd
end

section
set_option linter.all false
set_option maxRecDepth 100000
set_option maxHeartbeats 1000000
/-! A call of a plain def from a body, in the logic at the machine's level. -/
namespace Cf
open PySem PyProof.Rows
open Sem (wp)
theorem Kp.trans {C : BC} {H H1 H2 : L2.Hp} {s s1 s2 : Shared} (a : Kp C [] H s H1 s1) (b : Kp C [] H1 s1 H2 s2) : Kp C [] H s H2 s2 where
  os := b.os.trans a.os
  keep := fun c o e n h1 h2 h3 h4 => let ⟨e1, n1⟩ := a.keep c o e n h1 h2 h3 h4; b.keep c o e1 n1 h1 h2 h3 h4
  slot := fun c o hb e => by
    obtain ⟨sl, e1⟩ := a.slot c o hb e
    obtain ⟨sl2, e2⟩ := b.slot c _ hb e1
    exact ⟨sl2, e2⟩
  gens := a.gens.trans b.gens
  sz := Nat.le_trans a.sz b.sz
theorem bare_of_gk {G G' : Array GenState} (h : AllBare G) (k : GK G G') : AllBare G' := fun x hx => by
  obtain ⟨i, hi, rfl⟩ := Array.mem_iff_getElem.mp hx
  rcases k.new i _ (Array.getElem?_eq_getElem hi) with q | q
  · exact h _ (Array.mem_of_getElem? q)
  · exact q
/-- what a body knows, with no generator asleep -/
theorem BI.env0 {C : BC} {σ : L2.St} {H : L2.Hp} {s : Shared} (ok : C.Ok) (I : BI C σ H s) (hb : AllBare s.gens) : L2.Env0 C.prog C.w C.K C.mg C.base (C.A.deeper C.env) (C.env :: C.outer) s H := by
  have J := I.inv ok (G := s.gens) hb (pins := []) fun p hp => nomatch hp
  exact J.env0
/-- what comes back from a called body, for the frames below it -/
structure Ret (P : Program) (w : World) (base : Heap) (outer : List Env) (H : L2.Hp) (s : Shared) (H' : L2.Hp) (s' : Shared) : Prop where
  keep : ∀ b o, s.heap.get? b = some o → H b = none → b ∉ L2.frs outer → (∀ v, o.data ≠ .cell v) → s'.heap.get? b = some o ∧ H' b = none
  os : s'.os = s.os
  bare : AllBare s'.gens
  bs : ∀ b o, base.get? b = some o → s'.heap.get? b = some o ∧ H' b = none
  slot : ∀ b o, b ∈ L2.frs outer → s.heap.get? b = some o → ∃ sl, s'.heap.get? b = some { o with slots := sl }
  funs : s'.heap.FunFrames base outer
  frf : ∀ b ∈ L2.frs outer, H' b = none
  hok : L2.HOk P w H' s'.heap
theorem Ret.bi {C : BC} {σ : L2.St} {H H' : L2.Hp} {s s' : Shared} (ok : C.Ok) (I : BI C σ H s) (r : Ret C.prog C.w C.base (C.env :: C.outer) H s H' s') : BI C σ H' s' := by
  have hm : C.L ∈ L2.frs (C.env :: C.outer) := List.mem_cons_self
  exact I.moved ok (fun o e => r.slot C.L o hm e) r.bs r.funs.2.2 (fun b hb => r.frf b (List.mem_cons_of_mem _ hb)) (r.frf _ hm) r.hok
section
variable {P : Program} {w : World} {K : PySem.W.Frag} {mg : Str → Option Value} {base : Heap} {N ps : List Str} {d : Df} {f : Addr} {A : Around} {outer : List Env} {s : Shared} {H : L2.Hp} {args : Args} {us : List Value} {vs : List L2.V} {k : Nat}
theorem call_conf {B : PySem.Result → Shared → Prop} (lk : K.lookup f = some ⟨d.oc, d.od, .func d.fn, d.osl⟩) (hcd : PySem.W.codeIn K d.cd d.qual = true) (S : L2.FnScope N ps d.scope) (hr : L2.Room k A) (e0 : L2.Env0 P w K mg base A outer s H) (hb : BindsTo s d.fn args (ps.zip us)) (r : L2.Vals vs us)
    (hl : vs.length = ps.length)
    (hbody : ∀ s1, s1.os = s.os → s1.gens = s.gens → (∀ b o, s.heap.get? b = some o → s1.heap.get? b = some o) → BI (d.bc P w K mg base N f A outer s.heap.objs.size) (L2.start N vs) H s1 → ∀ Hh,
      Conf (model P w) A (RRest (model P w) B) (.func d.body (envOfC d.qual d.scope s.heap.objs.size f d.cd)) ((execs d.body (envOfC d.qual d.scope s.heap.objs.size f d.cd)).wrap (fun f => .pure (.done (.ret (match f with | .ret v => v | _ => .none)))) Hh id id) [] s1) :
    Call (model P w) A (.call (.ref f) args) B s := by
  have KX : K.In s.heap := e0.mod.kin.keeps fun b o e => (e0.bs b o e).1
  have lim : s.heap.NoLimit := e0.mod.nolimit.keeps fun b o e => (e0.bs b o e).1
  have hkind : ∀ y ∈ ps.zip us, d.scope.names.lookup y.1 = some .local ∨ (d.scope.names.lookup y.1 = some .cell ∧ ((cellsFrom (s.heap.objs.size + 1) d.scope.names []).lookup y.1).isSome = true) := fun ⟨n, v⟩ hy => by
    rcases S.par n (List.of_mem_zip hy).1 with q | q
    · exact .inl q
    · exact .inr ⟨q, PySem.W.cellsFrom_some _ _ _ (.inl q)⟩
  show Conf (model P w) A (RRest (model P w) B) (.call (.ref f) args) (callAny (.ref f) args) [] s
  rw [← wrap_id (callAny (.ref f) args)]
  refine cf_wrapN ?_
  rw [over_call]
  obtain ⟨c, oc, cvs, tq, hc, hoc, hdc, hq⟩ := PySem.W.codeRec_of KX hcd
  obtain ⟨name, qual, params, body, scope, dV, kV, doc, pm, cd, ct, oc0, an, od, osl⟩ := d
  obtain rfl : cd = .ref c := hc
  have hco : scope.isCoroutine = false := S.co
  have hgen : scope.isGenerator = false := S.gen
  simp only [callAny]
  refine wpAny_bind (wpAny_load (KX _ _ lk) ?_)
  simp only [callFunction, hco, hgen]
  refine wpAny_bind (m := field (.ref c) 1) (wpAny_field hoc hdc hq (wpAny_bind (wpAny_pure ?_)))
  refine wpAny_bind (hb _ _ _ _ ?_)
  refine wpAny_bind (wpAny_newFunctionEnv_cells S.kind hkind fun env he s1 x => ?_)
  subst he
  refine wpAny_bind (wpAny_enterFrame (lim.keeps x.toInCall.keep) hr.depth (wpAny_pure ?_))
  refine cf_again rfl (cf_func fun Hh => ?_)
  obtain ⟨h1, tk, es1, hk1⟩ := x.done
  have I1 : L2.Inv (L2.cxOf L2.CX0 P w K mg base N qual scope f (.ref c) A outer s H (fun _ _ _ => False)) [] (L2.start N vs) H s1 := L2.inv_start S hr.hd e0 hl r x
  exact hbody s1 (by rw [es1]) (by rw [es1]) x.toInCall.keep ⟨I1.bs, I1.funs, e0.frf, I1.loc, I1.free, I1.hok, I1.len⟩ Hh
end
section
variable {C : BC} {σ : L2.St} {H : L2.Hp} {s : Shared} {c : Code} {fs : List Frame} {R : Rest} {K : Value → Sem PySem.Fin} {Hh : Value → Sem PySem.Fin} {gd : Bool → Bool} {lv : List Value → List Value}
/-- f(e, ..) in a body, f a plain def, its call at this level -/
theorem cf_callF (ok : C.Ok) (hov : C.A.over c fs = C.A.deeper C.env) (hnf : NoH fs = true) (I : BI C σ H s) {e : Expr} {es : List Expr} {x : Str} {p pos : Pos} {f : Addr} {Qa : List Value → Shared → Prop} {B : List Value → Shared → PySem.Result → Shared → Prop}
    (hg : C.env.kindOf x = some .globalImplicit) (hm : C.mg x = some (.ref f)) (hk : PySem.W.keepIn C.K (.ref f) = true) (hdb : (x == ("__debug__" : Str)) = false)
    (he : starEach (e :: es) C.env = (false, eval e C.env) :: starEach es C.env) (hpl : (backTo pos (starEach es C.env)).any (·.1) = false)
    (hargs : wpAny C.M (C.A.deeper C.env) (spliced (backTo pos (starEach (e :: es) C.env))) (fun vs s1 => C.K.In s1.heap ∧ Qa vs s1) NoX s)
    (hcall : ∀ vs s1, Qa vs s1 → Call C.M (C.A.deeper C.env) (.call (.ref f) ⟨vs, []⟩) (fun r s' => ∃ v, r = .ok (.ret v) ∧ B vs s1 r s') s1)
    (hK : ∀ vs s1 v s', Qa vs s1 → B vs s1 (.ok (.ret v)) s' → Conf C.M C.A R c (K v) fs s') :
    Conf C.M C.A R c ((eval (.Call (.Name x p) (e :: es) [] pos) C.env).wrap K Hh gd lv) fs s := by
  rw [arm_eval_Call_Name']
  refine cf_wbindN ?_
  rw [hov]
  have bk : ∀ b o, C.base.get? b = some o → s.heap.get? b = some o := fun b o e => (I.bs b o e).1
  refine Calls.Name_function_global ok.kind hg (Calls.loadGlobal_global (ok.mod.glob.keeps bk) hm ?_) hdb
  show Conf C.M C.A R c ((callWith pos (.ref f) [] (backTo pos (starEach (e :: es) C.env)) []).wrap K Hh gd lv) fs s
  have hplain : ((backTo pos (starEach (e :: es) C.env)).any (·.1) || ([] : List (Option Str × Sem Value)).any (·.1.isNone)) = false := by
    rw [he]
    show ((false || (backTo pos (starEach es C.env)).any (·.1)) || false) = false
    rw [hpl]; rfl
  unfold callWith
  refine cf_wbindN (wpAny_holding ?_)
  rw [hov]
  have hsp : wpAny C.M (C.A.deeper C.env) (evalArgs (.ref f) true (backTo pos (starEach (e :: es) C.env)) []) (fun a s1 => a.kw = [] ∧ C.K.In s1.heap ∧ Qa a.pos s1) NoX s := by
    rw [he] at hargs ⊢
    exact Calls.evalArgs_plain (wpAny_mono hargs (fun vs s1 q => ⟨rfl, q⟩) fun _ _ z => z)
  refine wpAny_mono hsp (fun a s1 hq => ?_) fun _ _ z => z
  obtain ⟨hkw, hin, hqa⟩ := hq
  refine cf_wbindN (wpAny_standAt ?_)
  obtain ⟨k, hk', L⟩ := PySem.W.keeps_K (M := C.M) hk _ hin
  simp only [hplain]
  refine cf_wbindN (L.here ?_)
  have tail : ∀ {m : Sem Value}, (∀ K' H' gd' lv', (∀ v s', (B a.pos s1 (.ok (.ret v)) s') → Conf C.M C.A R c (K' v) fs s') → Conf C.M C.A R c (m.wrap K' H' gd' lv') fs s1) →
      Conf C.M C.A R c ((m >>= fun r => holding [r] point >>= fun _ => pure r).wrap K Hh gd lv) fs s1 := fun {m} h => by
    refine cf_wbindC (h _ _ _ _ fun v s' hB => ?_)
    refine cf_wbindN (wpAny_holding (wpAny_point ?_))
    exact hK a.pos s1 v s' hqa hB
  have base : ∀ K' H' gd' lv', (∀ v s', (B a.pos s1 (.ok (.ret v)) s') → Conf C.M C.A R c (K' v) fs s') → Conf C.M C.A R c ((PySem.call (.ref f) ([] ++ a.pos) a.kw).wrap K' H' gd' lv') fs s1 := fun K' H' gd' lv' h => by
    rw [hkw]
    refine cf_value (A' := C.A.deeper C.env) hnf (hcall _ s1 hqa) (by rw [hov]; exact Le.refl _) fun r s' hr => ?_
    obtain ⟨v, rfl, hB⟩ := hr
    exact h v s' hB
  have marked : ∀ (mk : Value) K' H' gd' lv', (∀ v s', (B a.pos s1 (.ok (.ret v)) s') → Conf C.M C.A R c (K' v) fs s') → Conf C.M C.A R c ((callMarked mk (.ref f) ([] ++ a.pos) a.kw).wrap K' H' gd' lv') fs s1 := fun mk K' H' gd' lv' h => by
    unfold callMarked
    rw [Sem.keep_eq_wrap, Sem.wrap_wrap]
    exact base _ _ _ _ h
  rcases hk' with rfl | rfl | rfl <;> dsimp only <;> first | exact tail base | (split <;> first | exact tail base | exact tail (marked _))
end
end Cf
end

section
set_option linter.all false
set_option maxRecDepth 100000
set_option maxHeartbeats 4000000
/-! the judge and the law's check agree; classes and unions. Plain. -/
namespace Pd
open PySem PySem.Spec PyProof.Rows L2 SlX
def jB (cs : List (List Int)) : Bool := decide (cs ≠ []) && cs.all upOk && ascT cs && stepOk cs
/-- the elements of a tuple of permutations -/
def elsK (ks : Pe.Pairs) : Els := ks.map fun q => (V.ref q.1, some (q.2.map V.int))
theorem elsK_fst (ks : Pe.Pairs) : (elsK ks).map (·.1) = ks.map Pe.xRef := by unfold elsK; rw [List.map_map]; rfl
theorem intV_map (p : List Int) : (p.map V.int).map intV = p := by rw [List.map_map]; exact List.map_id'' (fun _ => rfl) p
theorem tups_elsK (ks : Pe.Pairs) : tupsOf (elsK ks) = ks.map (·.2) := by
  unfold tupsOf elsK
  rw [List.map_map]
  exact List.map_congr_left fun q _ => intV_map q.2
theorem okEl_perm {n : Nat} (h2 : 2 ≤ n) (h7 : n ≤ 7) {p : List Int} (h : p.Perm (Pf.rangeI n)) : okEl n (some (p.map V.int)) = upOk p := by
  have hl := (perm_one h7 h).1
  show (arePlV (p.map V.int) 7 && decide ((p.map V.int).length = n)) = upOk p
  unfold arePlV
  rw [intV_map, List.length_map, hl]
  have e1 : (p.map V.int).all isIntV = true := by rw [List.all_map]; exact List.all_eq_true.mpr fun _ _ => rfl
  have e2 : permR p = true := by unfold permR; rw [hl]; exact List.isPerm_iff.mpr h
  rw [e1, e2, decide_eq_true h2, decide_eq_true h7, decide_eq_true rfl]
  simp
theorem closedV_ks {n : Nat} (h2 : 2 ≤ n) (h7 : n ≤ 7) {ks : Pe.Pairs} (h : ∀ q ∈ ks, q.2.Perm (Pf.rangeI n)) : closedV n (elsK ks) = jB (ks.map (·.2)) := by
  unfold closedV jB
  rw [tups_elsK]
  have e1 : decide (elsK ks ≠ []) = decide (ks.map (·.2) ≠ []) := decide_eq_decide.mpr (by unfold elsK; rw [ne_eq, ne_eq, List.map_eq_nil_iff, List.map_eq_nil_iff])
  have e2 : (elsK ks).all (fun p => okEl n p.2) = (ks.map (·.2)).all upOk := by
    unfold elsK
    rw [List.all_map, List.all_map, Bool.eq_iff_iff, List.all_eq_true, List.all_eq_true]
    exact ⟨fun z q hq => by have := z q hq; show upOk q.2 = true; rw [← okEl_perm h2 h7 (h q hq)]; exact this, fun z q hq => by have := z q hq; show okEl n (some (q.2.map V.int)) = true; rw [okEl_perm h2 h7 (h q hq)]; exact this⟩
  rw [e1, e2]
  unfold closedT
  rw [← Bool.and_assoc]
theorem closedV_off {n m : Nat} (h7 : n ≤ 7) (hm : n ≠ m) {ks : Pe.Pairs} (hne : ks ≠ []) (h : ∀ q ∈ ks, q.2.Perm (Pf.rangeI n)) : closedV m (elsK ks) = false := by
  cases ks with
  | nil => exact absurd rfl hne
  | cons q ks =>
    have hl := (perm_one h7 (h q List.mem_cons_self)).1
    have e : okEl m (some (q.2.map V.int)) = false := by
      show (arePlV (q.2.map V.int) 7 && decide ((q.2.map V.int).length = m)) = false
      rw [List.length_map, hl, decide_eq_false hm, Bool.and_false]
    unfold closedV elsK
    rw [List.map_cons, List.all_cons]
    show (_ && (okEl m (some (q.2.map V.int)) && _) && _) = false
    rw [e, Bool.false_and, Bool.and_false, Bool.false_and]
/-- what the law leans on, for one number of names -/
structure Facts (P : Program) (w : World) (n : Nat) : Prop where
  up : ∀ p, p.Perm (Pf.rangeI n) → upOk p = wholeL (Pf.rangeI n) p
  mv : ∀ p low, p.Perm (Pf.rangeI n) → wholeL (Pf.rangeI n) p = true → movedL low p = nextP low p
  ix : ∀ p, p.Perm (Pf.rangeI n) → wholeL (Pf.rangeI n) p = true → ixMax p + 1 < p.length
  perm : ∀ p ∈ Pf.ordersOf n, p.Perm (Pf.rangeI n)
  whole : ∀ p ∈ Pf.ordersOf n, wholeL (Pf.rangeI n) p = true
  wb : ∀ p ∈ Pf.ordersOf n, wholeB p = true
  step : ∀ p low, p ∈ Pf.ordersOf n → nextP low p ∈ Pf.ordersOf n
  sym : ∀ p q, p ∈ Pf.ordersOf n → Reach p q → Reach q p
  fit : ∀ p ∈ Pf.ordersOf n, Fit P w p n
  two : ∀ p ∈ Pf.ordersOf n, ∀ r ∈ Pf.ordersOf n, ∃ U : List (List Int), U.length ≤ 60 ∧ ∀ q, Reach p q ∨ Reach r q → q ∈ U
  asc : ascT (Pf.ordersOf n) = true
  some_ : 0 < (Pf.ordersOf n).length
  few : (Pf.ordersOf n).length ≤ 76
  gen : ∀ t ∈ Pf.outsP n [] (Pf.rangeI n), GoodP t
section
variable {P : Program} {w : World} {n : Nat}
theorem Facts.reach (F : Facts P w n) {p q : List Int} (hp : p ∈ Pf.ordersOf n) (h : Reach p q) : q ∈ Pf.ordersOf n := by
  induction h with
  | self => exact hp
  | step low _ ih => exact F.step _ low ih
theorem kept_judge (F : Facts P w n) {cs : List (List Int)} (h : ∀ c ∈ cs, c.Perm (Pf.rangeI n)) : keptB n cs = jB cs := by
  unfold keptB jB stepOk
  rw [Bool.eq_iff_iff]
  simp only [Bool.and_eq_true, List.all_eq_true, decide_eq_true_eq]
  constructor
  · rintro ⟨⟨h1, h2⟩, h3⟩
    refine ⟨⟨⟨h1, fun c hc => ?_⟩, h2⟩, fun c hc => ?_⟩
    · rw [F.up c (h c hc)]; exact (h3 c hc).1.1
    · obtain ⟨⟨w1, m1⟩, m2⟩ := h3 c hc
      rw [F.mv c false (h c hc) w1] at m1
      rw [F.mv c true (h c hc) w1] at m2
      exact ⟨m1, m2⟩
  · rintro ⟨⟨⟨h1, h4⟩, h2⟩, h3⟩
    refine ⟨⟨h1, h2⟩, fun c hc => ?_⟩
    have w1 : wholeL (Pf.rangeI n) c = true := by rw [← F.up c (h c hc)]; exact h4 c hc
    obtain ⟨m1, m2⟩ := h3 c hc
    rw [F.mv c false (h c hc) w1, F.mv c true (h c hc) w1]
    exact ⟨⟨w1, m1⟩, m2⟩
/-- a sorted closed set of whole orders is judged so -/
theorem judge_closed (F : Facts P w n) (h7 : n ≤ 7) {cs : List (List Int)} (hne : cs ≠ []) (hin : ∀ c ∈ cs, c ∈ Pf.ordersOf n) (nd : cs.Nodup) (hs : cs.Pairwise fun a b => TS.code 8 a ≤ TS.code 8 b) (hst : ∀ c ∈ cs, ∀ low, nextP low c ∈ cs) : jB cs = true := by
  have hone : OneL n cs := fun c hc => perm_one h7 (F.perm c (hin c hc))
  unfold jB stepOk
  simp only [Bool.and_eq_true, List.all_eq_true, decide_eq_true_eq]
  refine ⟨⟨⟨hne, fun c hc => ?_⟩, ?_⟩, fun c hc => ⟨hst c hc false, hst c hc true⟩⟩
  · rw [F.up c (F.perm c (hin c hc))]; exact F.whole c (hin c hc)
  · rw [← sorted_self hone nd (fun _ => Iff.rfl) hs]; exact decide_eq_true rfl
theorem jB_step {cs : List (List Int)} (h : jB cs = true) {c : List Int} (hc : c ∈ cs) (low : Bool) : nextP low c ∈ cs := by
  unfold jB stepOk at h
  simp only [Bool.and_eq_true, List.all_eq_true, decide_eq_true_eq] at h
  have := h.2 c hc
  cases low
  · exact this.1
  · exact this.2
theorem jB_reach {cs : List (List Int)} (h : jB cs = true) {p q : List Int} (hp : p ∈ cs) (hr : Reach p q) : q ∈ cs := by
  induction hr with
  | self => exact hp
  | step low _ ih => exact jB_step h ih low
end
end Pd
end

section
set_option linter.all false
set_option maxRecDepth 100000
set_option maxHeartbeats 8000000
/-! _law_right behind its list of orders. -/
namespace Pd
open PySem PySem.Spec PyProof.Rows L2 SlX
abbrev sRI2 : Stmt := topS 49
abbrev NLR2 : List Str := ["_law_dice_here", "_law_times", "_law_orders", "_law_one", "_law_other_here", "_law_union", "_law_turn", "_law_value", "_law_every", "_law_is_parted", "_law_wrong", "_law_order"]
theorem scRI2 : FnScope NLR2 ["_law_dice_here"] (defScope sRI2) := ⟨rfl, rfl, rfl, by decide +kernel, rfl, by decide +kernel, by decide +kernel⟩
abbrev cLR2 (P : Program) (w : World) (K : PySem.W.Frag) (mg : Str → Option Value) (base : Heap) (f : Addr) (cd : Value) (A : Around) (outer : List Env) (L : Addr) : Cf.BC := ⟨P, w, K, mg, base, A, NLR2, "_law_right", defScope sRI2, f, cd, outer, L⟩
/-- what _law_right leans on -/
structure TxR (P : Program) (w : World) (K : PySem.W.Frag) (mg : Str → Option Value) (base : Heap) (C : Addr) : Prop where
  B : TB mg
  T : OrdT K mg C
  FF : OrdF P w K mg base C
  lr : Cal P w K mg base 1 "_law_roll" ["_law_dice_here", "_law_total"] spLR
  lp : Cal P w K mg base 2 "_law_pick" ["_law_dice_here", "_law_items"] spLP
  co : Cal P w K mg base 5 "class_of" ["order"] (spCO P w K C)
  ic : Cal P w K mg base 4 "is_closed" ["many", "value"] (spIC K)
  kp : Cal P w K mg base 2 "_law_is_kept" ["_law_times", "_law_value"] (spKP K)
  lo : Cal P w K mg base 3 "_law_other" ["_law_dice_here", "_law_times", "_law_value"] (spLO K)
  aj : Cal P w K mg base 7 "are_joined" ["one", "other"] (spAJ P w K C)
theorem slt_b {d : Addr} {H H' : Hp} {a C dx : Addr} {vs : List (Option V)} (hd : IsDice H d) (sm : SameB d H H') (h : Slt H a C dx vs) : Slt H' a C dx vs := by
  obtain ⟨x, y, z, hd⟩ := hd
  rcases h with ⟨h1, h2⟩ | ⟨h1, h2⟩
  · exact .inl ⟨sm _ _ (fun e => by rw [e, hd] at h1; cases h1) h1, h2⟩
  · exact .inr ⟨sm _ _ (fun e => by rw [e, hd] at h1; cases h1) h1, sm _ _ (fun e => by rw [e, hd] at h2; cases h2) h2⟩
theorem IsOrd.b {K : PySem.W.Frag} {C d : Addr} {H H' : Hp} {q : Addr} {p : List Int} (hd : IsDice H d) (sm : SameB d H H') (h : IsOrd K C H q p) : IsOrd K C H' q p :=
  let ⟨dx, pa, ua, vs, un, h1, h2, h3, h4, h5, h6, h7⟩ := h
  ⟨dx, pa, ua, vs, un, slt_b hd sm h1, h2, FT_b hd sm h3, h4, h5, SqT_b hd sm h6, h7⟩
theorem els_at {K : PySem.W.Frag} {H : Hp} {n : Nat} {t : Addr} {ks : Pe.Pairs} (h7 : n ≤ 7) (h : ValAt K H n t ks) : ∀ p ∈ elsK ks, ElAt H p.1 p.2 := fun p hp => by
  obtain ⟨q, hq, rfl⟩ := List.mem_map.mp hp
  refine ⟨q.1, rfl, h.el q hq, fun y hy => ?_, ?_⟩
  · obtain ⟨i, _, rfl⟩ := List.mem_map.mp hy
    exact .inl ⟨i, rfl⟩
  · rw [List.length_map, (perm_one h7 (h.pm q hq)).1]; omega
/-- a comprehension's reading by an invariant -/
theorem lc_inv {J : It} {H1 : Hp} {n : Nat} {D : Addr} {fin : Hp → Prop} {step : (Hp → Prop) → V → Hp → Prop} (Iv : Nat → Hp → Prop) (h0 : Iv 0 (upd H1 D (.lst []))) (hstop : ∀ H, Iv n H → J.stop n H ∧ fin H) (hgo : ∀ i H, i < n → Iv i H → J.go i H)
    (hstep : ∀ (i : Nat) (H : Hp) (x : V) (H' : Hp) (Nx : Hp → Prop), i < n → Iv i H → J.yld i H x H' → (∀ H'', Iv (i + 1) H'' → Nx H'') → step Nx x H') :
    ∃ W : Nat → Nat → Hp → Prop, (∃ m, W 0 m (upd H1 D (.lst []))) ∧ ∀ (i m : Nat) (H : Hp), W i m H → (J.stop i H ∧ fin H) ∨ (J.go i H ∧ ∃ Nx : Hp → Prop, (∀ H', Nx H' → ∃ m', m' < m ∧ W (i + 1) m' H') ∧ ∀ (x : V) (H' : Hp), J.yld i H x H' → step Nx x H') := by
  refine ⟨fun i m H => i + m = n ∧ Iv i H, ⟨n, Nat.zero_add n, h0⟩, fun i m H hW => ?_⟩
  obtain ⟨e, hv⟩ := hW
  by_cases hi : i < n
  · exact .inr ⟨hgo i H hi hv, fun H' => Iv (i + 1) H', fun H' h => ⟨m - 1, by omega, by omega, h⟩, fun x H' hy => hstep i H x H' _ hi hv hy fun H'' h => h⟩
  · have e' : i = n := by omega
    subst e'
    exact .inl (hstop H hv)
section
variable {P : Program} {w : World} {K : PySem.W.Frag} {mg : Str → Option Value} {base : Heap} {f L : Addr} {A : Around} {outer : List Env} {cd : Value} {C : Addr}
theorem lr_rest {n : Nat} {H : Hp} {s : Shared} {d S : Addr} {xs : List V} (X : TxR P w K mg base C) (FA : Facts P w n) (h3 : 3 ≤ n) (h5 : n ≤ 5) (hr : Room 10 (A.deeper (cLR2 P w K mg base f cd A outer L).env)) (hd : IsDice H d) (hS : H S = some (.lst xs)) (hat : Pf.OrdsAt (IsOrd K C) H xs (Pf.ordersOf n)) :
    ∃ t, PSs ((cLR2 P w K mg base f cd A outer L).cx H s) ((defBody sRI2).drop 2) t ∧
      t { nx := fun _ _ => False, rt := fun v H' => v = .bl true ∧ SameB d H H' ∧ IsDice H' d } [some (.ref d), some (.int (n : Int)), some (.ref S), none, none, none, none, none, none, none, none, none] H := by
  obtain ⟨B, T, FF, hLR, hLP, hCO, hIC, hKP, hLO, hAJ⟩ := X
  obtain ⟨pp, g, fdp, a1, a2, a3, a4, FP, bP⟩ := FF.places
  have hu65 : (A.deeper (cLR2 P w K mg base f cd A outer L).env).units + 65 < cLine := by have := hr.un; omega
  have hr2 : Room 2 (A.deeper (cLR2 P w K mg base f cd A outer L).env) := hr.mono (by decide)
  refine ⟨_, pss_cons (ps_par (i := 3) (j := 4) (by rfl) scRI2.nd rfl rfl (by decide) rfl rfl (pa_cons (pe_cal hLP hr (by decide) (by rfl) (pa_cons (pv 0) (pa_cons (pv 2) pa_nil))) (pa_cons (pe_cal hLP hr (by decide) (by rfl) (pa_cons (pv 0) (pa_cons (pv 2) pa_nil))) pa_nil)) (by rfl))
    (pss_cons (ps_set (i := 5) scRI2.nd rfl (.inl rfl) (pe_callTy Pe.call_tupleF (by rfl) B.tuple (by decide +kernel) (pa_cons (pe_callB (Pe.cr_sortBag rfl) (by rfl) B.sorted (by decide +kernel) (pa_cons
        (pe_callTy (Pe.cr_setTT rfl hr.units) (by rfl) B.set (by decide +kernel) (pa_cons (pe_op op_catS (pe_cal hCO hr (by decide) (by rfl) (pa_cons (pv 3) pa_nil)) (pe_cal hCO hr (by decide) (by rfl) (pa_cons (pv 4) pa_nil))) pa_nil)) pa_nil)) pa_nil)))
    (pss_cons (ps_if (PW.pt (pw_or (pt_not (pt_val (pe_cal hIC hr (by decide) (by rfl) (pa_cons (pv 1) (pa_cons (pe_cal hCO hr (by decide) (by rfl) (pa_cons (pv 3) pa_nil)) pa_nil)))))
        (pw_or (pt_not (pt_val (pe_cal hIC hr (by decide) (by rfl) (pa_cons (pv 1) (pa_cons (pv 5) pa_nil))))) (pw_or1 (pt_not (pt_val (pe_cal hKP hr (by decide) (by rfl) (pa_cons (pv 1) (pa_cons (pv 5) pa_nil))))))))) (pss_one ps_never) pss_nil)
    (pss_cons (ps_for PassesOwn.never rfl (pi_range1 (by rfl) B.range (pa_cons pe_int pa_nil)) (pg_name (i := 6) scRI2.nd rfl (.inl rfl))
        (pss_cons (ps_set (i := 7) scRI2.nd rfl (.inl rfl) (pe_cal hLO hr (by decide) (by rfl) (pa_cons (pv 0) (pa_cons (pv 1) (pa_cons (pe_cal hLP hr (by decide) (by rfl) (pa_cons (pv 0) (pa_cons (pe_lst (pa_cons (pv 5) (pa_cons (pe_cal hCO hr (by decide) (by rfl) (pa_cons (pv 3) pa_nil)) pa_nil))) pa_nil))) pa_nil)))))
        (pss_cons (ps_if (pt_cmpR op_ne (pe_cal hIC hr (by decide) (by rfl) (pa_cons (pv 1) (pa_cons (pv 7) pa_nil))) (pe_cal hKP hr (by decide) (by rfl) (pa_cons (pv 1) (pa_cons (pv 7) pa_nil))) (nomark _)) (pss_one ps_never) pss_nil)
        (pss_one (ps_if (PW.pt (pw_and (pt_val (pe_cal hIC hr (by decide) (by rfl) (pa_cons (pv 1) (pa_cons (pv 7) pa_nil))))
            (pw_and (pt_cmpR op_ne (pe_cmpR (Pe.op_inTT hu65) (pe_propSl (E := E0) (pv 3) T.sc a1 a2 a3 a4 (FP.raw bP .nil) hr2 (fun _ _ _ _ z => z)) (pv 7) rfl) (pe_cmpR (Pe.op_inTT hu65) (pe_propSl (E := E0) (pv 4) T.sc a1 a2 a3 a4 (FP.raw bP .nil) hr2 (fun _ _ _ _ z => z)) (pv 7) rfl) (nomark _))
              (pw_and1 (pt_val (pe_cal hAJ hr (by decide) (by rfl) (pa_cons (pv 3) (pa_cons (pv 4) pa_nil)))))))) (pss_one ps_never) pss_nil)))))
    (pss_cons (ps_set (i := 8) scRI2.nd rfl (.inl rfl) (pe_callTy call_tuple_of (by rfl) B.tuple (by decide +kernel) (pa_cons
        (pe_lc (own := [("_law_order", 11)]) (g := gName 11) (tt := tYes) (te := tPropSl C (fun vs H Q E => spPl K C (vs ++ []) H Q E) E0 (tVar 11)) rfl scRI2.nd (pi_list (pv 2)) (blkOk_by (N := NLR2) (sc := defScope sRI2) (by decide +kernel)) (fun _ _ _ _ _ => pg_name (i := 11) scRI2.nd rfl (Or.inl rfl)) (fun _ _ _ _ _ => pts_nil)
          (fun _ _ _ _ _ => pe_propSl (E := E0) (pv 11) T.sc a1 a2 a3 a4 (FP.raw bP .nil) hr2 (fun _ _ _ _ z => z))) pa_nil)))
    (pss_cons (ps_if (PW.pt (pw_or (pt_not (pt_val (pe_cal hIC hr (by decide) (by rfl) (pa_cons (pv 1) (pa_cons (pv 8) pa_nil)))))
        (pw_or (pt_val (pe_cal hIC hr (by decide) (by rfl) (pa_cons (pe_op op_sub (pv 1) pe_int) (pa_cons (pe_cal hCO hr (by decide) (by rfl) (pa_cons (pv 3) pa_nil)) pa_nil))))
          (pw_or1 (pt_val (pe_cal hIC hr (by decide) (by rfl) (pa_cons (pe_op op_add (pv 1) pe_int) (pa_cons (pe_cal hCO hr (by decide) (by rfl) (pa_cons (pv 3) pa_nil)) pa_nil)))))))) (pss_one ps_never) pss_nil)
    (pss_cons (ps_set (i := 9) scRI2.nd rfl (.inl rfl) (pe_and (pe_cal hIC hr (by decide) (by rfl) (pa_cons (pv 1) (pa_cons (pe_cal hCO hr (by decide) (by rfl) (pa_cons (pv 3) pa_nil)) pa_nil)))
        (pe_one (pe_cmpR (Pe.op_notInTT hu65) (pe_propSl (E := E0) (pv 4) T.sc a1 a2 a3 a4 (FP.raw bP .nil) hr2 (fun _ _ _ _ z => z)) (pe_cal hCO hr (by decide) (by rfl) (pa_cons (pv 3) pa_nil)) rfl))))
    (pss_cons (ps_set (i := 10) scRI2.nd rfl (.inl rfl) (pe_cal hLP hr (by decide) (by rfl) (pa_cons (pv 0) (pa_cons (pe_lst (pa_cons pe_non (pa_cons (pe_tup pa_nil) (pa_cons (pe_callTy call_list_of (by rfl) B.list (by decide +kernel) (pa_cons (pe_cal hCO hr (by decide) (by rfl) (pa_cons (pv 3) pa_nil)) pa_nil))
        (pa_cons (pe_ix ix_tup (pe_cal hCO hr (by decide) (by rfl) (pa_cons (pv 3) pa_nil)) pe_int (fun _ _ => rfl)) (pa_cons (pe_tup (pa_cons pe_int (pa_cons pe_int pa_nil))) (pa_cons (pe_tup (pa_cons (Pe.pe_tupF (pa_cons pe_int (pa_cons pe_bl pa_nil))) pa_nil)) (pa_cons pe_dnewK (pa_cons pe_str pa_nil))))))))) pa_nil))))
    (pss_one (ps_ret (pe_and (pe_cmpR op_ne (pv 9) (pe_cal hAJ hr (by decide) (by rfl) (pa_cons (pv 3) (pa_cons (pv 4) pa_nil))) (nomark _)) (pe_one (pe_not (pe_cal hIC hr (by decide) (by rfl) (pa_cons (pv 1) (pa_cons (pv 10) pa_nil))))))))))))))), ?_⟩
  have h7 : n ≤ 7 := by omega
  have hts := hat.len
  have hx0 : 0 < xs.length := by rw [hts]; exact FA.some_
  have hxm : xs.length < 1000 := by rw [hts]; have := FA.few; omega
  have hpick : ∀ {i : Nat} {x : V}, xs[i]? = some x → ∃ q p, x = .ref q ∧ p ∈ Pf.ordersOf n ∧ IsOrd K C H q p := fun {i x} hx => by
    have hi := (List.getElem?_eq_some_iff.mp hx).1
    have hi2 : i < (Pf.ordersOf n).length := by rw [← hts]; exact hi
    obtain ⟨q, e1, e2⟩ := hat.at_ i _ (List.getElem?_eq_getElem hi2)
    rw [hx] at e1
    exact ⟨q, _, Option.some.inj e1, List.getElem_mem hi2, e2⟩
  have hSd : S ≠ d := fun e => by
    obtain ⟨x, y, z, e2⟩ := hd
    rw [← e, hS] at e2
    have e3 : xs = [.int x, .int y, .int z] := by injection e2 with e2; injection e2
    obtain ⟨q, p, e4, _⟩ := hpick (i := 0) (x := .int x) (by rw [e3]; rfl)
    cases e4
  have big : ∀ m : Nat, m < 1000 → m ≤ sizeLine := fun m hm => Nat.le_of_lt (Pf.small1000' (by omega))
  have valOf : ∀ {H' : Hp} {t : Addr} {qs : Pe.Pairs} {p : List Int}, p ∈ Pf.ordersOf n → ClsAt H' t qs → ClsL p (qs.map (·.2)) → ValAt K H' n t qs := fun {H' t qs p} hp ca cl =>
    ⟨ca.ft.sqT, ca.el, fun q hq => FA.perm _ (FA.reach hp ((cl.mem q.2).mp (List.mem_map_of_mem hq)))⟩
  have neOf : ∀ {qs : Pe.Pairs} {p : List Int}, ClsL p (qs.map (·.2)) → qs ≠ [] := fun {qs p} cl e => by
    have := (cl.mem p).mpr .self
    rw [e] at this
    cases this
  have lenOf : ∀ {qs : Pe.Pairs} {p : List Int}, p ∈ Pf.ordersOf n → ClsL p (qs.map (·.2)) → qs.length ≤ 60 := fun {qs p} hp cl => by
    obtain ⟨U, hU, hm⟩ := FA.two p hp p hp
    have := Pe.nodup_le (qs.map (·.2)) U cl.nd fun q hq => hm q (.inl ((cl.mem q).mp hq))
    rw [List.length_map] at this
    omega
  have clOf : ∀ {H' : Hp} {t : Addr} {qs : Pe.Pairs} {p : List Int}, p ∈ Pf.ordersOf n → ClsAt H' t qs → ClsL p (qs.map (·.2)) → closedV n (elsK qs) = true := fun {H' t qs p} hp ca cl => by
    rw [closedV_ks (by omega) h7 (valOf hp ca cl).pm]
    exact judge_closed FA h7 (fun e => neOf cl (List.map_eq_nil_iff.mp e)) (fun c hc => FA.reach hp ((cl.mem c).mp hc)) cl.nd cl.asc fun c hc low => (cl.mem _).mpr (.step low ((cl.mem c).mp hc))
  have hn7 : ∀ {p : List Int}, p ∈ Pf.ordersOf n → p.length ≤ 7 := fun {p} hp => by rw [(perm_one h7 (FA.perm p hp)).1]; exact h7
  -- the two picks
  refine ⟨.ref d, rfl, .ref S, rfl, d, S, xs, rfl, hd, hS, hSd, hx0, hxm, fun H1 i1 x1 sm1 _ hd1 hx1 => ?_⟩
  refine ⟨.ref d, rfl, .ref S, rfl, d, S, xs, rfl, hd1, sm1 _ _ hSd hS, hSd, hx0, hxm, fun H2 i2 x2 sm2 _ hd2 hx2 => ?_⟩
  obtain ⟨q1, p1, rfl, hp1, o1⟩ := hpick hx1
  obtain ⟨q2, p2, rfl, hp2, o2⟩ := hpick hx2
  refine ⟨_, _, rfl, ?_⟩
  have O1 : ∀ {H'}, SameB d H H' → IsOrd K C H' q1 p1 := fun sm => o1.b hd sm
  have O2 : ∀ {H'}, SameB d H H' → IsOrd K C H' q2 p2 := fun sm => o2.b hd sm
  have sB2 := sm1.trans sm2
  -- the union
  refine ⟨.ref q1, rfl, q1, p1, n, rfl, O1 sB2, FA.wb _ hp1, hn7 hp1, FA.fit _ hp1, fun H3 t1 qs1 sm3 ca1 cl1 => ?_⟩
  refine ⟨.ref q2, rfl, q2, p2, n, rfl, O2 (sB2.same sm3), FA.wb _ hp2, hn7 hp2, FA.fit _ hp2, fun H4 t2 qs2 sm4 ca2 cl2 => ?_⟩
  have l1 := lenOf hp1 cl1
  have l2 := lenOf hp2 cl2
  refine ⟨t1, t2, _, _, rfl, rfl, (ca1.to sm4).ft.sqT, ca2.ft.sqT, by rw [List.length_map, List.length_map]; exact big _ (by omega), fun p5 H5 sm5 hp5 => ?_⟩
  rw [← List.map_append] at hp5
  obtain ⟨U, hU, hUm⟩ := FA.two p1 hp1 p2 hp2
  have memU : ∀ q ∈ qs1 ++ qs2, Reach p1 q.2 ∨ Reach p2 q.2 := fun q hq => by
    rcases List.mem_append.mp hq with h | h
    · exact .inl ((cl1.mem _).mp (List.mem_map_of_mem h))
    · exact .inr ((cl2.mem _).mp (List.mem_map_of_mem h))
  have elU : ∀ {H'}, Cf.Same H5 H' → ∀ q ∈ qs1 ++ qs2, Pe.FT H' q.1 (q.2.map V.int) := fun sm q hq => by
    rcases List.mem_append.mp hq with h | h
    · exact FT_to (((sm4.trans sm5).trans sm)) (ca1.el q h)
    · exact FT_to (sm5.trans sm) (ca2.el q h)
  refine ⟨p5, qs1 ++ qs2, U, rfl, hp5, fun q hq => (elU (Cf.Same.refl _) q hq).sqT, fun q hq => hUm _ (memU q hq), by omega, fun p6 L0 np6 hsub hcov hnd => ?_⟩
  have s6 := Pf.same_upd (o := Pe.BagO P w p6 L0) np6
  have hLlen : L0.length ≤ 60 := by
    have := Pe.nodup_le (L0.map (·.2)) U hnd fun x hx => by
      obtain ⟨y, hy, rfl⟩ := List.mem_map.mp hx
      exact hUm _ (memU y (hsub y hy))
    rw [List.length_map] at this
    omega
  have inO : ∀ q ∈ qs1 ++ qs2, q.2 ∈ Pf.ordersOf n := fun q hq => (memU q hq).elim (FA.reach hp1) (FA.reach hp2)
  refine ⟨p6, L0, n, 8, rfl, upd_same, fun q hq => (elU s6 q (hsub q hq)).sqT, by omega, by omega, fun q hq => perm_one h7 (FA.perm _ (inO q (hsub q hq))), fun Lu r7 hpL hndL hsL nr7 => ?_⟩
  have s7 := Pf.same_upd (o := .lst (Lu.map Pe.xRef)) nr7
  refine ⟨r7, _, rfl, .inl (.inl upd_same), fun un o8 nun od8 => ?_⟩
  have s8 := Pf.same_upd (o := HO.frz o8 (.tup (Lu.map Pe.xRef))) nun
  have s58 := (s6.trans s7).trans s8
  have hsubL : ∀ q ∈ Lu, q ∈ qs1 ++ qs2 := fun q hq => hsub q (hpL.mem_iff.mp hq)
  have VU : ValAt K _ n un Lu := ⟨Pe.FT.sqT ⟨o8, upd_same, od8⟩, fun q hq => elU s58 q (hsubL q hq), fun q hq => FA.perm _ (inO q (hsubL q hq))⟩
  have memL : ∀ x, x ∈ Lu.map (·.2) ↔ Reach p1 x ∨ Reach p2 x := fun x => by
    constructor
    · intro hx
      obtain ⟨q, hq, rfl⟩ := List.mem_map.mp hx
      exact memU q (hsubL q hq)
    · intro hx
      have : x ∈ (qs1 ++ qs2).map (·.2) := by
        rw [List.map_append, List.mem_append]
        exact hx.elim (fun h => .inl ((cl1.mem x).mpr h)) (fun h => .inr ((cl2.mem x).mpr h))
      obtain ⟨q, hq, rfl⟩ := List.mem_map.mp this
      exact (hpL.map (·.2)).mem_iff.mpr (hcov q hq)
  have hLu60 : Lu.length ≤ 60 := by rw [hpL.length_eq]; exact hLlen
  have jU : jB (Lu.map (·.2)) = true := judge_closed FA h7 (fun e => by
      have := (memL p1).mpr (.inl .self)
      rw [e] at this; cases this) (fun c hc => ((memL c).mp hc).elim (FA.reach hp1) (FA.reach hp2)) hndL (List.pairwise_map.mpr hsL) fun c hc low => (memL _).mpr (((memL c).mp hc).imp (fun h => .step low h) fun h => .step low h)
  have hLne : Lu ≠ [] := fun e => by
    have := (memL p1).mpr (.inl .self)
    rw [e] at this; cases this
  have sB8 := (sB2.same ((sm3.trans sm4).trans sm5)).same s58
  have hd8 := (hd2.to ((sm3.trans sm4).trans sm5)).to s58
  generalize upd (upd (upd H5 p6 (Pe.BagO P w p6 L0)) r7 (.lst (Lu.map Pe.xRef))) un (HO.frz o8 (.tup (Lu.map Pe.xRef))) = H8 at VU sB8 hd8
  -- the judge on the class and on the union
  refine ⟨.int (n : Int), rfl, .ref q1, rfl, q1, p1, n, rfl, O1 sB8, FA.wb _ hp1, hn7 hp1, FA.fit _ hp1, fun H9 t9 qs9 sm9 ca9 cl9 => ?_⟩
  have V9 := valOf hp1 ca9 cl9
  refine ⟨.ref t9, n, rfl, by omega, h7, .inr ⟨t9, elsK qs9, rfl, by rw [elsK_fst]; exact V9.sq, els_at h7 V9, by unfold elsK; rw [List.length_map]; have := lenOf hp1 cl9; omega, fun H10 sm10 => ⟨true, congrArg V.bl (clOf hp1 ca9 cl9), iteF ?_⟩⟩⟩
  have s810 := sm9.trans sm10
  have VU10 := VU.to s810
  refine ⟨.int (n : Int), rfl, .ref un, rfl, .ref un, n, rfl, by omega, h7, .inr ⟨un, elsK Lu, rfl, by rw [elsK_fst]; exact VU10.sq, els_at h7 VU10, by unfold elsK; rw [List.length_map]; omega, fun H11 sm11 => ⟨true, congrArg V.bl (by rw [closedV_ks (by omega) h7 VU.pm]; exact jU), iteF ?_⟩⟩⟩
  have VU11 := VU10.to sm11
  refine ⟨.int (n : Int), rfl, .ref un, rfl, n, un, Lu, Lu.map (·.2), rfl, by omega, h7, VU11.sq, VU11.tups, fun q hq => List.mem_map_of_mem hq, by rw [List.length_map]; omega, by omega, VU.pm, fun q hq hw => FA.ix _ (VU.pm q hq) hw, fun H12 sm12 => ⟨true, congrArg V.bl ?_, iteF ?_⟩⟩
  · rw [kept_judge FA fun c hc => by obtain ⟨q, hq, rfl⟩ := List.mem_map.mp hc; exact VU.pm q hq]
    exact jU
  have s12 := (s810.trans sm11).trans sm12
  -- the four turns
  refine ⟨4, rfl, by omega, by omega, ?_⟩
  refine for_inv (n := 4) (fun i σ H' => ∃ y6 y7, σ = [some (.ref d), some (.int (n : Int)), some (.ref S), some (.ref q1), some (.ref q2), some (.ref un), y6, y7, none, none, none, none] ∧ SameB d H H' ∧ IsDice H' d ∧ ValAt K H' n un Lu)
    ⟨none, none, rfl, sB8.same s12, hd8.to s12, VU.to s12⟩ (fun σ H' hv => ?_) (fun i σ H' hi hv => hi) (fun i σ H' x H'' Nx hi hv hy hN => ?_)
  case refine_2 =>
    obtain ⟨rfl, rfl⟩ := hy
    obtain ⟨y6, y7, rfl, sB, hdk, VUk⟩ := hv
    refine ⟨.ref d, rfl, .int (n : Int), rfl, .ref d, rfl, .ref un, rfl, .ref q1, rfl, q1, p1, n, rfl, O1 sB, FA.wb _ hp1, hn7 hp1, FA.fit _ hp1, fun Ha t qs sma ca cl => ?_⟩
    refine ⟨by show 2 ≤ sizeLine; decide, fun l nl => ?_⟩
    have sl := Pf.same_upd (o := .lst [V.ref un, V.ref t]) nl
    have hda := hdk.to sma
    have hdl := hda.to sl
    have hld : l ≠ d := fun e => by
      obtain ⟨x, y, z, hdd⟩ := hda
      rw [← e, nl] at hdd; cases hdd
    refine ⟨d, l, [.ref un, .ref t], rfl, hdl, upd_same, hld, Nat.zero_lt_succ _, (by show 2 < 1000; decide), fun Hb j x smb _ hdb hx => ?_⟩
    have sBb : SameB d H'' Hb := ((fun b u nb e => smb b u nb (sl _ _ (sma _ _ e))) : SameB d H'' Hb)
    obtain ⟨a, ks, rfl, Va, hk0, hk60⟩ : ∃ a ks, x = .ref a ∧ ValAt K Hb n a ks ∧ 0 < ks.length ∧ ks.length ≤ 60 := by
      have hj := (List.getElem?_eq_some_iff.mp hx).1
      have : j = 0 ∨ j = 1 := by simp at hj; omega
      rcases this with rfl | rfl
      · cases hx
        exact ⟨un, Lu, rfl, VUk.b hdk sBb, List.length_pos_iff.mpr hLne, hLu60⟩
      · cases hx
        exact ⟨t, qs, rfl, ((valOf hp1 ca cl).to sl).b hdl smb, List.length_pos_iff.mpr (neOf cl), lenOf hp1 cl⟩
    refine ⟨d, n, a, ks, rfl, hdb, by omega, h7, Va, hk0, hk60, fun Hc v ks' smc hdc Vc hlc => ?_⟩
    have sBc : SameB d H Hc := (sB.trans sBb).trans smc
    have VUc : ValAt K Hc n un Lu := (VUk.b hdk sBb).b hdb smc
    have kj : keptB n (ks'.map (·.2)) = closedV n (elsK ks') := by
      rw [closedV_ks (by omega) h7 Vc.pm]
      exact kept_judge FA fun c hc => by obtain ⟨q, hq, rfl⟩ := List.mem_map.mp hc; exact Vc.pm q hq
    have icV : ∀ {H' : Hp}, Cf.Same Hc H' → (SqT K H' v ((elsK ks').map (·.1)) ∧ (∀ p ∈ elsK ks', ElAt H' p.1 p.2) ∧ (elsK ks').length ≤ 76) := fun sm => ⟨by rw [elsK_fst]; exact (Vc.to sm).sq, els_at h7 (Vc.to sm), by unfold elsK; rw [List.length_map]; omega⟩
    refine ⟨.int (n : Int), rfl, .ref v, rfl, .ref v, n, rfl, by omega, h7, .inr ⟨v, elsK ks', rfl, (icV (Cf.Same.refl _)).1, (icV (Cf.Same.refl _)).2.1, (icV (Cf.Same.refl _)).2.2, fun Hd smd => ?_⟩⟩
    have Vd := Vc.to smd
    refine ⟨.int (n : Int), rfl, .ref v, rfl, n, v, ks', ks'.map (·.2), rfl, by omega, h7, Vd.sq, Vd.tups, fun q hq => List.mem_map_of_mem hq, by rw [List.length_map]; omega, hlc, Vd.pm, fun q hq hw => FA.ix _ (Vd.pm q hq) hw, fun He sme => ?_⟩
    refine ⟨rfl, false, congrArg V.bl (by rw [kj, decide_eq_true rfl]; rfl), iteF ?_⟩
    have sme2 := smd.trans sme
    have sBe := sBc.same sme2
    have fin : ∀ H', Cf.Same He H' → Nx [some (.ref d), some (.int (n : Int)), some (.ref S), some (.ref q1), some (.ref q2), some (.ref un), some (.int (0 + (i : Int))), some (.ref v), none, none, none, none] H' := fun H' sm => hN _ _ ⟨_, _, rfl, sBe.same sm, (hdc.to sme2).to sm, (VUc.to sme2).to sm⟩
    refine ⟨.int (n : Int), rfl, .ref v, rfl, .ref v, n, rfl, by omega, h7, .inr ⟨v, elsK ks', rfl, (icV sme2).1, (icV sme2).2.1, (icV sme2).2.2, fun Hf smf => ?_⟩⟩
    cases hcl : closedV n (elsK ks') with
    | false => exact ⟨false, rfl, iteF (fin _ smf)⟩
    | true =>
    refine ⟨true, rfl, iteT ?_⟩
    have jv : jB (ks'.map (·.2)) = true := by rw [← closedV_ks (by omega) h7 Vc.pm]; exact hcl
    have Vf := (Vc.to sme2).to smf
    have sBf := sBe.same smf
    have f1 := O1 sBf
    have f2 := O2 sBf
    obtain ⟨dx1, _, _, ws1, _, g1, _⟩ := id f1
    obtain ⟨dx2, _, _, ws2, _, g2, _⟩ := id f2
    refine ⟨.ref q1, rfl, q1, dx1, ws1, rfl, g1, q1, p1, rfl, f1, fun pa hpa => ?_⟩
    refine ⟨.ref v, rfl, pa, v, p1, ks', rfl, rfl, hpa.sqT, Vf.sq, Vf.tups, ?_⟩
    refine ⟨.ref q2, rfl, q2, dx2, ws2, rfl, g2, q2, p2, rfl, f2, fun pb hpb => ?_⟩
    refine ⟨.ref v, rfl, pb, v, p2, ks', rfl, rfl, hpb.sqT, Vf.sq, Vf.tups, rfl, ?_⟩
    by_cases hR : Reach p1 p2
    · have e12 : decide (p1 ∈ ks'.map (·.2)) = decide (p2 ∈ ks'.map (·.2)) := decide_eq_decide.mpr ⟨fun h => jB_reach jv h hR, fun h => jB_reach jv h (FA.sym p1 p2 hp1 hR)⟩
      refine ⟨false, congrArg V.bl ?_, iteF (fin _ smf)⟩
      show (!decide (V.bl (decide (p1 ∈ ks'.map (·.2))) = V.bl (decide (p2 ∈ ks'.map (·.2))))) = false
      rw [e12, decide_eq_true rfl]; rfl
    · refine ⟨_, rfl, ite2 (fun _ => ?_) (fun _ => fin _ smf)⟩
      refine ⟨.ref q1, rfl, .ref q2, rfl, q1, q2, p1, p2, n, false, rfl, f1, f2, FA.wb _ hp1, FA.wb _ hp2, hn7 hp1, hn7 hp2, FA.fit _ hp1, ⟨(fun z => by cases z), fun z => absurd z hR⟩, fun Hg smg => ⟨false, rfl, iteF (fin _ (smf.trans smg))⟩⟩
  obtain ⟨y6, y7, rfl, sB, hdk, VUk⟩ := hv
  refine ⟨Nat.le_refl 4, ?_⟩
  -- every order's places
  have hSk : H' S = some (.lst xs) := sB _ _ hSd hS
  refine ⟨.ref S, rfl, S, rfl, ⟨_, .inl (.inl hSk)⟩, fun D hD => ?_⟩
  have hDd : D ≠ d := fun e => by
    obtain ⟨x, y, z, hdd⟩ := hdk
    rw [← e, hD] at hdd; cases hdd
  refine lc_inv (n := xs.length) (fun i Hk => Cf.Same H' Hk ∧ ∃ ks : Pe.Pairs, Hk D = some (.lst (ks.map Pe.xRef)) ∧ ks.map (·.2) = (Pf.ordersOf n).take i ∧ ∀ q ∈ ks, Pe.FT Hk q.1 (q.2.map V.int))
    ⟨Pf.same_upd hD, [], upd_same, rfl, fun q hq => by cases hq⟩ (fun Hk hv => ?_) (fun i Hk hi hv => ⟨xs, xs[i], .inl (.inl (hv.1 _ _ hSk)), List.getElem?_eq_getElem hi⟩) (fun i Hk x Hk2 Nx hi hv hy hN => ?_)
  case refine_2 =>
    obtain ⟨smk, ks, hks, hke, hkf⟩ := hv
    obtain ⟨rfl, hx⟩ := hy
    have hx := hx _ (.inl (.inl (smk _ _ hSk)))
    have hi2 : i < (Pf.ordersOf n).length := by omega
    obtain ⟨q, e1, oq⟩ := hat.at_ i _ (List.getElem?_eq_getElem hi2)
    rw [hx] at e1
    obtain rfl := Option.some.inj e1
    refine ⟨rfl, iteT (B := Nx Hk2) ?_⟩
    have oq2 := oq.b hd (sB.same smk)
    obtain ⟨dxq, _, _, wsq, _, gq, _⟩ := id oq2
    refine ⟨.ref q, rfl, q, dxq, wsq, rfl, gq, q, _, rfl, oq2, fun pa hpa => ?_⟩
    have hDk : H' D = none := hD
    have hkl : ks.length = i := by
      have := congrArg List.length hke
      rw [List.length_map, List.length_take] at this
      omega
    refine ⟨_, hks, Pf.small1000' (by rw [List.length_map]; omega), hN _ ⟨fun b z e => ?_, ks ++ [(pa, (Pf.ordersOf n)[i])], ?_, ?_, fun y hy => ?_⟩⟩
    · rw [upd_ne (ne_of_none e hDk)]; exact smk _ _ e
    · rw [upd_same, List.map_append]; rfl
    · rw [List.map_append, hke, List.take_add_one, List.getElem?_eq_getElem hi2]; rfl
    · have hft : ∀ {a : Addr} {ys : List V}, Pe.FT Hk2 a ys → Pe.FT (upd Hk2 D (.lst (ks.map Pe.xRef ++ [.ref pa]))) a ys := fun {a ys} ⟨o, e, h⟩ => ⟨o, by rw [upd_ne (fun z => by rw [z, hks] at e; cases e)]; exact e, h⟩
      rcases List.mem_append.mp hy with h | h
      · exact hft (hkf y h)
      · rw [List.mem_singleton.mp h]; exact hft hpa
  obtain ⟨smk, ks, hks, hke, hkf⟩ := hv
  rw [List.take_of_length_le (by omega)] at hke
  refine ⟨⟨xs, .inl (.inl (smk _ _ hSk)), Nat.le_refl _⟩, ?_⟩
  refine ⟨D, _, rfl, .inl ⟨.inl (.inl hks), fun ev nev => ?_⟩⟩
  have sev := Pf.same_upd (o := .tup (ks.map Pe.xRef)) nev
  have VE : ValAt K _ n ev ks := ⟨.inl (.inl upd_same), fun q hq => FT_to sev (hkf q hq), fun q hq => FA.perm _ (by rw [← hke]; exact List.mem_map_of_mem hq)⟩
  have sBE := sB.same (smk.trans sev)
  have hdE := hdk.to (smk.trans sev)
  have hkl : ks.length ≤ 76 := by
    have := congrArg List.length hke
    rw [List.length_map] at this
    have := FA.few
    omega
  generalize upd Hk ev (.tup (ks.map Pe.xRef)) = HE at VE sBE hdE
  have jE : closedV n (elsK ks) = true := by
    rw [closedV_ks (by omega) h7 VE.pm, hke]
    unfold jB stepOk
    simp only [Bool.and_eq_true, List.all_eq_true, decide_eq_true_eq]
    exact ⟨⟨⟨(fun e => by have := FA.some_; rw [e] at this; cases this), (fun c hc => by rw [FA.up c (FA.perm c hc)]; exact FA.whole c hc)⟩, FA.asc⟩, fun c hc => ⟨FA.step c false hc, FA.step c true hc⟩⟩
  refine ⟨.int (n : Int), rfl, .ref ev, rfl, .ref ev, n, rfl, by omega, h7, .inr ⟨ev, elsK ks, rfl, by rw [elsK_fst]; exact VE.sq, els_at h7 VE, by unfold elsK; rw [List.length_map]; exact hkl, fun Hg smg => ⟨true, congrArg V.bl jE, iteF ?_⟩⟩⟩
  have off : ∀ {H' : Hp} {t : Addr} {qs : Pe.Pairs}, ClsAt H' t qs → ClsL p1 (qs.map (·.2)) → SqT K H' t ((elsK qs).map (·.1)) ∧ (∀ p ∈ elsK qs, ElAt H' p.1 p.2) ∧ (elsK qs).length ≤ 76 := fun {H' t qs} ca cl =>
    ⟨by rw [elsK_fst]; exact ca.ft.sqT, els_at h7 (valOf hp1 ca cl), by unfold elsK; rw [List.length_map]; have := lenOf hp1 cl; omega⟩
  have sBg := sBE.same smg
  refine ⟨.int (n : Int), rfl, (n : Int), 1, rfl, rfl, .ref q1, rfl, q1, p1, n, rfl, O1 sBg, FA.wb _ hp1, hn7 hp1, FA.fit _ hp1, fun Hh th qh smh cah clh => ?_⟩
  refine ⟨.ref th, n - 1, (by show [V.int ((n : Int) - 1), V.ref th] = [V.int ((n - 1 : Nat) : Int), V.ref th]; rw [show ((n : Int) - 1) = ((n - 1 : Nat) : Int) from by omega]), by omega, by omega, .inr ⟨th, elsK qh, rfl, (off cah clh).1, (off cah clh).2.1, (off cah clh).2.2, fun Hi smi => ⟨false, congrArg V.bl (closedV_off h7 (by omega) (neOf clh) (valOf hp1 cah clh).pm), iteF ?_⟩⟩⟩
  have sBi := sBg.same (smh.trans smi)
  refine ⟨.int (n : Int), rfl, (n : Int), 1, rfl, rfl, .ref q1, rfl, q1, p1, n, rfl, O1 sBi, FA.wb _ hp1, hn7 hp1, FA.fit _ hp1, fun Hj tj qj smj caj clj => ?_⟩
  refine ⟨.ref tj, n + 1, rfl, by omega, by omega, .inr ⟨tj, elsK qj, rfl, (off caj clj).1, (off caj clj).2.1, (off caj clj).2.2, fun Hl sml => ⟨false, congrArg V.bl (closedV_off h7 (by omega) (neOf clj) (valOf hp1 caj clj).pm), iteF ?_⟩⟩⟩
  have sBl := sBi.same (smj.trans sml)
  have hdl := (((hdE.to smg).to (smh.trans smi)).to (smj.trans sml))
  -- parted
  refine ⟨.int (n : Int), rfl, .ref q1, rfl, q1, p1, n, rfl, O1 sBl, FA.wb _ hp1, hn7 hp1, FA.fit _ hp1, fun Hm tm qm smm cam clm => ?_⟩
  refine ⟨.ref tm, n, rfl, by omega, h7, .inr ⟨tm, elsK qm, rfl, (off cam clm).1, (off cam clm).2.1, (off cam clm).2.2, fun Hn smn => ⟨true, congrArg V.bl (clOf hp1 cam clm), iteT ?_⟩⟩⟩
  have sBn := sBl.same (smm.trans smn)
  have f2 := O2 sBn
  obtain ⟨dx2, _, _, ws2, _, g2, _⟩ := id f2
  refine ⟨.ref q2, rfl, q2, dx2, ws2, rfl, g2, q2, p2, rfl, f2, fun pb hpb => ?_⟩
  refine ⟨.ref q1, rfl, q1, p1, n, rfl, O1 sBn, FA.wb _ hp1, hn7 hp1, FA.fit _ hp1, fun Ho to_ qo smo cao clo => ?_⟩
  refine ⟨pb, to_, p2, qo, rfl, rfl, (FT_to smo hpb).sqT, cao.ft.sqT, fun q hq => (cao.el q hq).sqT, ?_⟩
  have sBo := sBn.same smo
  have hdo := (hdl.to (smm.trans smn)).to smo
  have dne : ∀ {Hk : Hp} {b : Addr}, IsDice Hk d → Hk b = none → b ≠ d := fun {Hk b} h hb e => by
    obtain ⟨x, y, z, hdd⟩ := h
    rw [← e, hb] at hdd; cases hdd
  -- the wrong values
  refine ⟨.ref d, rfl, Nat.zero_le _, fun T0 n0 => ?_⟩
  have u0 := Pf.same_upd (o := .tup []) n0
  refine ⟨.ref q1, rfl, q1, p1, n, rfl, O1 (sBo.same u0), FA.wb _ hp1, hn7 hp1, FA.fit _ hp1, fun Hp1 tp qp smp cap clp => ?_⟩
  refine ⟨tp, _, rfl, .inr cap.ft.sqT, fun l2 nl2 => ?_⟩
  have u2 := Pf.same_upd (o := .lst (qp.map Pe.xRef)) nl2
  have hd2' := (hdo.to u0).to smp
  have l2d := dne hd2' nl2
  refine ⟨.ref q1, rfl, q1, p1, n, rfl, O1 (((sBo.same u0).same smp).same u2), FA.wb _ hp1, hn7 hp1, FA.fit _ hp1, fun Hq tq qq smq caq clq => ?_⟩
  have hq0 : 0 < qq.length := List.length_pos_iff.mpr (neOf clq)
  refine ⟨tq, _, 0, Pe.xRef qq[0], rfl, rfl, caq.ft.sqT, atI_nat (j := 0) (by rw [List.getElem?_map, List.getElem?_eq_getElem hq0]; rfl), ?_⟩
  refine ⟨by show 2 ≤ sizeLine; decide, fun T1 n1 => ?_⟩
  have u3 := Pf.same_upd (o := .tup [V.int 1, V.int 0]) n1
  refine ⟨by show 2 ≤ sizeLine; decide, fun T2 o2 n2 od2 => ?_⟩
  have u4 := Pf.same_upd (o := HO.frz o2 (.tup [V.int 1, V.bl true])) n2
  refine ⟨by show 1 ≤ sizeLine; decide, fun T3 n3 => ?_⟩
  have u5 := Pf.same_upd (o := .tup [V.ref T2]) n3
  intro D0 nD0
  have u6 := Pf.same_upd (o := .dK []) nD0
  refine ⟨by show 8 ≤ sizeLine; decide, fun lw nlw => ?_⟩
  have u7 := Pf.same_upd (o := .lst [V.non, V.ref T0, V.ref l2, Pe.xRef qq[0], V.ref T1, V.ref T3, V.ref D0, V.str "10"]) nlw
  have s37 := (((u3.trans u4).trans u5).trans u6).trans u7
  have s27 := (u2.trans smq).trans s37
  have s07 := (u0.trans smp).trans s27
  have hd6 := (((hd2'.to u2).to smq).to (((u3.trans u4).trans u5).trans u6))
  have hd7 := hd6.to u7
  have lwd := dne hd6 nlw
  refine ⟨d, lw, _, rfl, hd7, upd_same, lwd, Nat.zero_lt_succ _, (by show 8 < 1000; decide), fun Hw j x smw _ hdw hx => ?_⟩
  have sBw : SameB d H Hw := (sBo.same s07).trans smw
  have hwrong : NoTup K Hw x ∨ ∃ (a : Addr) (es : Els), x = .ref a ∧ SqT K Hw a (es.map (·.1)) ∧ (∀ p ∈ es, ElAt Hw p.1 p.2) ∧ es.length ≤ 76 ∧ closedV n es = false := by
    have hj : j < 8 := (List.getElem?_eq_some_iff.mp hx).1
    have hj8 : j = 0 ∨ j = 1 ∨ j = 2 ∨ j = 3 ∨ j = 4 ∨ j = 5 ∨ j = 6 ∨ j = 7 := by omega
    rcases hj8 with rfl | rfl | rfl | rfl | rfl | rfl | rfl | rfl <;> cases hx
    · exact .inl ⟨_, .base .non, kit_ty (by decide +kernel)⟩
    · exact .inr ⟨T0, [], rfl, SqT_b hd7 smw (.inl (.inl ((smp.trans s27) _ _ upd_same))), (fun p hp => by cases hp), Nat.zero_le _, rfl⟩
    · exact .inl ⟨_, .base (.lst (smw _ _ l2d ((smq.trans s37) _ _ upd_same))), kit_ty (by decide +kernel)⟩
    · have hf := caq.el qq[0] (List.getElem_mem hq0)
      have hpl : (qq[0]).2.length = n := (perm_one h7 ((valOf hp1 caq clq).pm qq[0] (List.getElem_mem hq0))).1
      have em : ((qq[0]).2.map fun (i : Int) => (V.int i, (none : Option (List V)))).map (·.1) = (qq[0]).2.map V.int := by rw [List.map_map]; rfl
      refine .inr ⟨(qq[0]).1, (qq[0]).2.map fun (i : Int) => (V.int i, none), rfl, by rw [em]; exact SqT_b hd7 smw (Cf_SqT s37 hf.sqT), (fun p hp => ?_), by rw [List.length_map]; omega, ?_⟩
      · obtain ⟨i, _, rfl⟩ := List.mem_map.mp hp
        exact ⟨i, rfl⟩
      · generalize (qq[0]).2 = z at hpl
        cases z with
        | nil => simp at hpl; omega
        | cons a z =>
          unfold closedV
          rw [List.map_cons, List.all_cons]
          show (_ && (false && _) && _) = false
          rw [Bool.false_and, Bool.and_false, Bool.false_and]
    · refine .inr ⟨T1, [(.int 1, none), (.int 0, none)], rfl, SqT_b hd7 smw (.inl (.inl ((((u4.trans u5).trans u6).trans u7) _ _ upd_same))), (fun p hp => ?_), (by show 2 ≤ 76; decide), rfl⟩
      rcases List.mem_cons.mp hp with rfl | hp
      · exact ⟨1, rfl⟩
      · rw [List.mem_singleton.mp hp]; exact ⟨0, rfl⟩
    · refine .inr ⟨T3, [(.ref T2, some [.int 1, .bl true])], rfl, SqT_b hd7 smw (.inl (.inl ((u6.trans u7) _ _ upd_same))), (fun p hp => ?_), (by show 1 ≤ 76; decide), ?_⟩
      · rw [List.mem_singleton.mp hp]
        refine ⟨T2, rfl, FT_b hd7 smw ⟨o2, ((u5.trans u6).trans u7) _ _ upd_same, od2⟩, fun y hy => ?_, by show 2 < 64; decide⟩
        rcases List.mem_cons.mp hy with rfl | hy
        · exact .inl ⟨1, rfl⟩
        · rw [List.mem_singleton.mp hy]; exact .inr ⟨true, rfl⟩
      · have e : okEl n (some [V.int 1, V.bl true]) = false := rfl
        unfold closedV
        rw [List.all_cons]
        show (_ && (okEl n (some [V.int 1, V.bl true]) && _) && _) = false
        rw [e, Bool.false_and, Bool.and_false, Bool.false_and]
    · exact .inl ⟨_, .base (.dK (smw _ _ (dne ((hd2'.to u2).to (smq.trans ((u3.trans u4).trans u5))) nD0) (u7 _ _ upd_same))), kit_ty (by decide +kernel)⟩
    · exact .inl ⟨_, .base (.str _), kit_ty (by decide +kernel)⟩
  have mo : decide (p2 ∈ qo.map (·.2)) = decide (p2 ∈ qo.map (·.2)) := rfl
  have fin : ∀ H', Cf.Same Hw H' → (V.bl true = .bl true ∧ SameB d H H' ∧ IsDice H' d) := fun H' sm => ⟨rfl, sBw.same sm, hdw.to sm⟩
  have last : ∀ jn : Bool, (jn = true ↔ Reach p1 p2) → (!decide (V.bl (!decide (p2 ∈ qo.map (·.2))) = V.bl jn)) = true := fun jn hj => by
    have hm := clo.mem p2
    cases jn with
    | true =>
      have e : decide (p2 ∈ qo.map (·.2)) = true := decide_eq_true (hm.mpr (hj.mp rfl))
      rw [e]; rfl
    | false =>
      have e : decide (p2 ∈ qo.map (·.2)) = false := decide_eq_false (fun z => by have := hj.mpr (hm.mp z); cases this)
      rw [e]; rfl
  obtain ⟨jn, hjn⟩ : ∃ jn : Bool, (jn = true ↔ Reach p1 p2) := by
    by_cases hR : Reach p1 p2
    · exact ⟨true, fun _ => hR, fun _ => rfl⟩
    · exact ⟨false, (fun z => by cases z), fun z => absurd z hR⟩
  refine ⟨_, rfl, .ref q1, rfl, .ref q2, rfl, q1, q2, p1, p2, n, jn, rfl, O1 sBw, O2 sBw, FA.wb _ hp1, FA.wb _ hp2, hn7 hp1, hn7 hp2, FA.fit _ hp1, hjn, fun Hx smx => ⟨rfl, true, congrArg V.bl (last jn hjn), iteT ?_⟩⟩
  refine ⟨.int (n : Int), rfl, x, rfl, x, n, rfl, by omega, h7, ?_⟩
  rcases hwrong with ⟨t, ty, hk⟩ | ⟨a, es, rfl, hsq, hel, hle, hcl⟩
  · exact .inl ⟨⟨t, tyx_same smx ty, hk⟩, fun Hy smy => ⟨false, rfl, fin Hy (smx.trans smy)⟩⟩
  · exact .inr ⟨a, es, rfl, Cf_SqT smx hsq, fun p hp => ElAt_same smx (hel p hp), hle, fun Hy smy => ⟨false, congrArg V.bl hcl, fin Hy (smx.trans smy)⟩⟩
end
end Pd
end

section
set_option linter.all false
set_option maxRecDepth 100000
set_option maxHeartbeats 4000000
/-! _law_right, called. -/
namespace Pd
open PySem PySem.Spec PyProof.Rows L2 SlX Cf
open Pf hiding topS
theorem cf_Assign {M : Model} {A : Around} {R : Rest} {c : Code} {fs : List Frame} {s : Shared} {env : Env} {H : Value → Sem PySem.Fin} {gd : Bool → Bool} {lv : List Value → List Value} {x : Str} {pos' pos : Pos} {value : Expr} {K : Flow → Sem PySem.Fin}
    (hs : swapsWith value (some (.Name x pos')) pos.line env = pure false)
    (h : Conf M A R c ((eval value env).wrap (fun v => (do standAt pos'; bindName env x v; pure Flow.next : Sem Flow).wrap K H gd lv) H gd lv) fs s) : Conf M A R c ((exec (.Assign [.Name x pos'] value pos) env).wrap K H gd lv) fs s := by
  rw [exec_Assign_Name env x pos' value pos hs]
  exact cf_wbindN (wpAny_standAt (cf_wbindC h))
theorem flRI2 : Pf.plainNames (defScope sRI2) = true := by decide +kernel
theorem okLR2 {P : Program} {w : World} {K : PySem.W.Frag} {mg : Str → Option Value} {base : Heap} {f L : Addr} {A : Around} {outer : List Env} {cd : Value} (hm : Mod K mg base) (hd : A.handled = none) (hf : A.frames = some outer) (hb : base.objs.size ≤ L) (hl : ∀ b ∈ frs outer, b < L) : (cLR2 P w K mg base f cd A outer L).Ok where
  mod := hm
  kind := rfl
  flat := fun x => by
    show (cellsFrom (L + 1) (defScope sRI2).names []).lookup x = none
    rw [Pf.flat_aux _ _ flRI2]; rfl
  nofc := fun x => Pf.nofc_of flRI2 x
  hd := hd
  frames := hf
  bsz := hb
  frlt := hl
section
variable {P : Program} {w : World} {K : PySem.W.Frag} {mg : Str → Option Value} {base : Heap} {f L : Addr} {A : Around} {outer : List Env} {C : Addr}
variable {fP : Addr} {kV doc pm cdP ct oc : Value} {an od : Option Addr} {osl : Array (Option Value)}
variable {fE : Addr} {kV' doc' pm' cdE ct' oc' : Value} {an' od' : Option Addr} {osl' : Array (Option Value)}
variable {kV2 doc2 pm2 cd2 ct2 oc2 : Value} {an2 od2 : Option Addr} {osl2 : Array (Option Value)}
/-- the promise of _law_right -/
def BR (P : Program) (w : World) (base : Heap) (outer : List Env) (d : Addr) (H : Hp) (s : Shared) : PySem.Result → Shared → Prop := fun r s' => ∃ v, r = .ok (.ret v) ∧ v = .bool true ∧ ∃ H', Cf.Ret P w base outer H s H' s' ∧ SameB d H H' ∧ IsDice H' d
theorem lr_call {s : Shared} {H : Hp} {d : Addr} (X : TxR P w K mg base C) (FA : ∀ n, 3 ≤ n → n ≤ 5 → Facts P w n) (TP : Pf.TxP K mg base fP kV doc pm cdP ct oc an od osl) (TE : Pf.TxE P w K mg base GoodP (IsOrd K C) 5) (TO : Pf.TxO K mg fE kV' doc' pm' cdE ct' oc' an' od' osl')
    (lk : K.lookup f = some ⟨oc2, od2, .func (Pf.dOf "_law_right" sRI2 kV2 doc2 pm2 cd2 ct2 oc2 an2 od2 osl2).fn, osl2⟩) (hcd : PySem.W.codeIn K cd2 "_law_right" = true) (hb : L2.Binds K (Pf.dOf "_law_right" sRI2 kV2 doc2 pm2 cd2 ct2 oc2 an2 od2 osl2).fn ["_law_dice_here"] [])
    (hr : Room 30 A) (e0 : Env0 P w K mg base A outer s H) (hfl : ∀ b ∈ frs outer, b < s.heap.objs.size) (hd : IsDice H d) : Call (model P w) A (.call (.ref f) ⟨[.ref d], []⟩) (BR P w base outer d H s) s := by
  have KX : K.In s.heap := e0.mod.kin.keeps fun b o e => (e0.bs b o e).1
  have hbt := hb s [.ref d] KX rfl
  refine call_conf (d := Pf.dOf "_law_right" sRI2 kV2 doc2 pm2 cd2 ct2 oc2 an2 od2 osl2) (N := NLR2) (ps := ["_law_dice_here"]) (us := [.ref d]) (vs := [.ref d]) (k := 30) lk hcd scRI2 hr e0 hbt (.cons rfl .nil) rfl fun s1 os1 gens1 keep1 I1 Hh => ?_
  have ok : (cLR2 P w K mg base f cd2 A outer s.heap.objs.size).Ok := okLR2 e0.mod hr.hd e0.frames e0.bsz hfl
  have hbare1 : AllBare s1.gens := by rw [gens1]; exact e0.bare
  have hr29 : Room 29 (A.deeper (cLR2 P w K mg base f cd2 A outer s.heap.objs.size).env) := Room.deeper (k := 29) hr _
  -- a number of names
  refine cf_cons (cf_wrapN ?_)
  rw [GenW.over_func]
  refine wpAny_mono (run_plain ok I1 [] (Post := fun r σ' H' => r = Flow.next ∧ ∃ n : Nat, 3 ≤ n ∧ n ≤ 5 ∧ σ' = [some (.ref d), some (.int (n : Int)), none, none, none, none, none, none, none, none, none, none] ∧ SameB d H H' ∧ IsDice H' d) fun pins _ J => ?_) (fun r s2 hq => ?_) fun _ _ z => z
  · have S0 : PS ((cLR2 P w K mg base f cd2 A outer s.heap.objs.size).cx H s1) ((defBody sRI2).getD 0 (.Pass ⟨0, 0, 0, 0⟩)) _ := ps_set (i := 1) scRI2.nd rfl (.inl rfl) (pe_op op_add pe_int (pe_cal X.lr hr29 (by decide) (by rfl) (pa_cons (pv 0) (pa_cons pe_int pa_nil))))
    refine wpAny_mono (S0.run pins _ _ H { nx := fun σ' H' => ∃ n : Nat, 3 ≤ n ∧ n ≤ 5 ∧ σ' = [some (.ref d), some (.int (n : Int)), none, none, none, none, none, none, none, none, none, none] ∧ SameB d H H' ∧ IsDice H' d, rt := fun _ _ => False } J ?_) (fun r s' hq => ?_) fun _ _ z => z
    · refine ⟨.ref d, rfl, d, 3, rfl, hd, by omega, by omega, fun H' r sm _ hd' hr3 => ?_⟩
      exact ⟨3, (r : Int), rfl, rfl, 3 + r, by omega, by omega, by rfl, sm, hd'⟩
    · cases r with
      | next => obtain ⟨σ', H', J', n, q⟩ := hq; exact ⟨σ', H', J', rfl, n, q⟩
      | brk => obtain ⟨_, _, _, q⟩ := hq; exact q.elim
      | cont => obtain ⟨_, _, _, q⟩ := hq; exact q.elim
      | ret u => obtain ⟨_, _, _, _, _, q⟩ := hq; exact q.elim
  obtain ⟨σ2, H2, I2, ⟨rfl, n, h3, h5, rfl, sm2, hd2⟩, kp2⟩ := hq
  have FAn := FA n h3 h5
  -- the orders
  refine cf_cons (cf_Assign (by rfl) ?_)
  refine Pf.cf_orders (fun H H' q t sm h => h.to sm) TP TE TO ok GenW.over_func rfl I2 (n := n) (by omega) (by omega) (fun t ht => ⟨FAn.gen t ht, by have := (FAn.gen t ht).2.1; omega⟩) (by have := FAn.few; omega) (hr29.mono (by decide)) (by rfl) (by rfl) (by rfl) (by rfl) (fun H s => pv 1) rfl fun S s3 H3 xs I3 kp3 sm3 nS hS hat => ?_
  refine cf_wbindN (wpAny_standAt (cf_wbindN ?_))
  rw [GenW.over_func]
  refine wpAny_mono (run_plain ok I3 [] (Post := fun (_ : Unit) σ' H' => σ' = [some (.ref d), some (.int (n : Int)), some (.ref S), none, none, none, none, none, none, none, none, none] ∧ H' = H3) fun pins _ J => ?_) (fun r s4 hq => ?_) fun _ _ z => z
  · unfold bindName
    refine wpAny_bind (wpAny_holding (wpAny_point (wpAny_bind (store_ok (X := (cLR2 P w K mg base f cd2 A outer s.heap.objs.size).cx H3 s3) (i := 2) (v := .ref S) J scRI2.nd rfl (.inl rfl) rfl (fun s' J' => wpAny_point (M := model P w) ⟨_, _, J', rfl, rfl⟩)))))
  obtain ⟨σ4, H4, I4, ⟨rfl, rfl⟩, kp4⟩ := hq
  refine cf_wrapN (wpAny_pure ?_)
  refine cf_wrapN ?_
  rw [GenW.over_func]
  have sB3 : SameB d H H4 := sm2.same sm3
  have hd3 := hd2.to sm3
  obtain ⟨t, ht, hread⟩ := lr_rest (f := f) (L := s.heap.objs.size) (cd := cd2) (s := s4) X FAn h3 h5 (hr29.mono (by decide)) hd3 hS hat
  refine wpAny_mono (run_plain ok I4 [] (Post := fun r σ' H' => r = Flow.ret (.bool true) ∧ SameB d H4 H' ∧ IsDice H' d) fun pins _ J => ?_) (fun r s5 hq => ?_) fun _ _ z => z
  · refine wpAny_mono (ht.run pins _ _ H4 _ J hread) (fun r s' hq => ?_) fun _ _ z => z
    cases r with
    | next => obtain ⟨_, _, _, q⟩ := hq; exact q.elim
    | brk => obtain ⟨_, _, _, q⟩ := hq; exact q.elim
    | cont => obtain ⟨_, _, _, q⟩ := hq; exact q.elim
    | ret u =>
      obtain ⟨v, σ', H', J', rv, rfl, q1, q2⟩ := hq
      exact ⟨σ', H', J', congrArg Flow.ret (show u = .bool true from rv), q1, q2⟩
  obtain ⟨σ5, H5, I5, ⟨rfl, sB5, hd5⟩, kp5⟩ := hq
  have kp := ((kp2.trans kp3).trans kp4).trans kp5
  refine cf_back (.ok (.ret (.bool true))) ⟨_, rfl, rfl, H5, ?_, sB3.trans sB5, hd5⟩
  exact ⟨fun b o e n hf hc => kp.keep b o (keep1 b o e) n (Nat.ne_of_lt (Heap.lt_size e)) hf (by simp) hc, kp.os.trans os1, bare_of_gk hbare1 kp.gens, I5.bs, fun b o hb e => kp.slot b o hb (keep1 b o e), I5.funs, I5.frf, I5.hok⟩
end
end Pd
end

section
set_option linter.all false
set_option maxRecDepth 100000
set_option maxHeartbeats 4000000
/-! law: the last rows, and the head of its loop. -/
namespace Pd
open PySem PySem.Spec PyProof.Rows L2 SlX Cf
abbrev sLL : Stmt := topS 50
abbrev NLL : List Str := ["_law_script", "_law_spot", "_law_dice_here", "_law_order"]
theorem scLL : FnScope NLL ["_law_script"] (defScope sLL) := ⟨rfl, rfl, rfl, by decide +kernel, rfl, by decide +kernel, by decide +kernel⟩
abbrev cLL (P : Program) (w : World) (K : PySem.W.Frag) (mg : Str → Option Value) (base : Heap) (f : Addr) (cd : Value) (A : Around) (outer : List Env) (L : Addr) : Cf.BC := ⟨P, w, K, mg, base, A, NLL, "law", defScope sLL, f, cd, outer, L⟩
theorem flLL : Pf.plainNames (defScope sLL) = true := by decide +kernel
theorem okLL {P : Program} {w : World} {K : PySem.W.Frag} {mg : Str → Option Value} {base : Heap} {f L : Addr} {A : Around} {outer : List Env} {cd : Value} (hm : Mod K mg base) (hd : A.handled = none) (hf : A.frames = some outer) (hb : base.objs.size ≤ L) (hl : ∀ b ∈ frs outer, b < L) : (cLL P w K mg base f cd A outer L).Ok where
  mod := hm
  kind := rfl
  flat := fun x => by
    show (cellsFrom (L + 1) (defScope sLL).names []).lookup x = none
    rw [Pf.flat_aux _ _ flLL]; rfl
  nofc := fun x => Pf.nofc_of flLL x
  hd := hd
  frames := hf
  bsz := hb
  frlt := hl
/-- what the last rows lean on, beside _law_right's -/
structure TxL (P : Program) (w : World) (K : PySem.W.Frag) (mg : Str → Option Value) (base : Heap) (C : Addr) : Prop where
  max : mg "max" = none
  min : mg "min" = none
  ld : Cal P w K mg base 1 "_law_dice" ["_law_script", "_law_spot"] (spLD K)
  rd : ∃ (mc : Value) (p g : Addr) (fd : FuncData), ClX.CRead K C mc ∧ ClX.CMet K C mc "read" p g ∧ FnOk P w K mg base CX0 5 g fd ["cls", "upper", "lower"] (spOR K C) ∧ L2.Binds K fd ["cls", "upper", "lower"] []
theorem perm2 : ([1, 0] : List Int).Perm (Pf.rangeI 2) := List.isPerm_iff.mp (by decide +kernel)
theorem perm3 : ([2, 1, 0] : List Int).Perm (Pf.rangeI 3) := List.isPerm_iff.mp (by decide +kernel)
theorem split1 : Txt.split "a b c d" " " = [0, 1, 2, 3].map nm := by decide +kernel
theorem split2 : Txt.split "d b c a" " " = [3, 1, 2, 0].map nm := by decide +kernel
theorem row1 : RowOk [0, 1, 2, 3] := ⟨by decide, by decide, by decide, by decide⟩
theorem row2 : RowOk [3, 1, 2, 0] := ⟨by decide, by decide, by decide, by decide⟩
theorem in4 : placesOf [0, 1, 2, 3] [3, 1, 2, 0] ∈ Pf.ordersOf 4 := by decide +kernel
section
variable {P : Program} {w : World} {K : PySem.W.Frag} {mg : Str → Option Value} {base : Heap} {f L : Addr} {A : Around} {outer : List Env} {cd : Value} {C : Addr}
theorem lw_rest {H : Hp} {s : Shared} {a y1 y2 : Option V} (X : TxR P w K mg base C) (Y : TxL P w K mg base C) (FA : Facts P w 4) (hr : Room 10 (A.deeper (cLL P w K mg base f cd A outer L).env)) :
    ∃ t, PSs ((cLL P w K mg base f cd A outer L).cx H s) ((defBody sLL).drop 1) t ∧ t { nx := fun _ _ => False, rt := fun v H' => v = .bl true ∧ Cf.Same H H' } [a, y1, y2, none] H := by
  obtain ⟨B, T, FF, hLR, hLP, hCO, hIC, hKP, hLO, hAJ⟩ := X
  obtain ⟨mc, p, g, fdr, cr, cm, FR, bR⟩ := Y.rd
  refine ⟨_, pss_cons (ps_set (i := 3) scLL.nd rfl (.inl rfl) (ClX.pe_cmeth (E := E0) (pe_glob (v := .ref C) rfl T.mgC rfl) cr cm (FR.raw bR .nil) (hr.mono (by decide)) pass0 (pa_cons pe_str (pa_cons pe_str pa_nil))))
    (pss_cons (ps_if (PW.pt (pw_or (pt_val (pe_cal hIC hr (by decide) (by rfl) (pa_cons pe_int (pa_cons (pe_tup (pa_cons (Pe.pe_tupF (pa_cons pe_bl (pa_cons pe_bl pa_nil))) pa_nil)) pa_nil))))
        (pw_or1 (pt_val (pe_cal hIC hr (by decide) (by rfl) (pa_cons pe_int (pa_cons (pe_tup (pa_cons (Pe.pe_tupF (pa_cons pe_int (pa_cons pe_int pa_nil))) (pa_cons (Pe.pe_tupF (pa_cons pe_int (pa_cons pe_int pa_nil))) pa_nil))) pa_nil))))))) (pss_one ps_never) pss_nil)
    (pss_one (ps_ret (pe_and (pe_cal hIC hr (by decide) (by rfl) (pa_cons pe_int (pa_cons (pe_cal hCO hr (by decide) (by rfl) (pa_cons (pv 3) pa_nil)) pa_nil)))
      (pe_and (pe_not (pe_cal hIC hr (by decide) (by rfl) (pa_cons pe_int (pa_cons (pe_tup (pa_cons (Pe.pe_tupF (pa_cons pe_int (pa_cons pe_int (pa_cons pe_int pa_nil)))) pa_nil)) pa_nil))))
        (pe_one (pe_cal hIC hr (by decide) (by rfl) (pa_cons pe_int (pa_cons (pe_tup (pa_cons (Pe.pe_tupF (pa_cons pe_int (pa_cons pe_int pa_nil))) pa_nil)) pa_nil))))))))), ?_⟩
  refine ⟨rfl, "a b c d", "d b c a", [0, 1, 2, 3], [3, 1, 2, 0], rfl, by decide, by decide, split1, split2, row1, row2, List.isPerm_iff.mp (by decide), fun H1 q sm1 ho => ?_⟩
  have wp : ∀ {n : Nat} {Hk : Hp} {t : Addr} {ks : Pe.Pairs}, SqT K Hk t (ks.map Pe.xRef) → (∀ q ∈ ks, Pe.FT Hk q.1 (q.2.map V.int)) → (∀ q ∈ ks, q.2.Perm (Pf.rangeI n)) → ValAt K Hk n t ks := fun h1 h2 h3 => ⟨h1, h2, h3⟩
  -- ((True, False),)
  refine ⟨by show 2 ≤ sizeLine; decide, fun T1 o1 n1 od1 => ?_⟩
  have u1 := Pf.same_upd (o := HO.frz o1 (.tup [V.bl true, V.bl false])) n1
  refine ⟨by show 1 ≤ sizeLine; decide, fun T2 n2 => ?_⟩
  have u2 := Pf.same_upd (o := .tup [V.ref T1]) n2
  refine ⟨.ref T2, 2, rfl, by decide, by decide, .inr ⟨T2, [(.ref T1, some [.bl true, .bl false])], rfl, .inl (.inl upd_same), fun p hp => ?_, by show 1 ≤ 76; decide, fun H2 sm2 => ⟨false, congrArg V.bl ?_, iteF ?_⟩⟩⟩
  · rw [List.mem_singleton.mp hp]
    refine ⟨T1, rfl, ⟨o1, u2 _ _ upd_same, od1⟩, fun y hy => ?_, by show 2 < 64; decide⟩
    rcases List.mem_cons.mp hy with rfl | hy
    · exact .inr ⟨true, rfl⟩
    · rw [List.mem_singleton.mp hy]; exact .inr ⟨false, rfl⟩
  · have e : okEl 2 (some [V.bl true, V.bl false]) = false := rfl
    unfold closedV
    rw [List.all_cons]
    show (_ && (okEl 2 (some [V.bl true, V.bl false]) && _) && _) = false
    rw [e, Bool.false_and, Bool.and_false, Bool.false_and]
  -- ((1, 0), (1, 0))
  refine ⟨by show 2 ≤ sizeLine; decide, fun T3 o3 n3 od3 => ?_⟩
  have u3 := Pf.same_upd (o := HO.frz o3 (.tup [V.int 1, V.int 0])) n3
  refine ⟨by show 2 ≤ sizeLine; decide, fun T4 o4 n4 od4 => ?_⟩
  have u4 := Pf.same_upd (o := HO.frz o4 (.tup [V.int 1, V.int 0])) n4
  refine ⟨by show 2 ≤ sizeLine; decide, fun T5 n5 => ?_⟩
  have u5 := Pf.same_upd (o := .tup [V.ref T3, V.ref T4]) n5
  have V5 : ValAt K _ 2 T5 [(T3, [1, 0]), (T4, [1, 0])] := wp (.inl (.inl upd_same)) (fun q hq => by
    rcases List.mem_cons.mp hq with rfl | hq
    · exact ⟨o3, (u4.trans u5) _ _ upd_same, od3⟩
    · rw [List.mem_singleton.mp hq]; exact ⟨o4, u5 _ _ upd_same, od4⟩) (fun q hq => by
    rcases List.mem_cons.mp hq with rfl | hq
    · exact perm2
    · rw [List.mem_singleton.mp hq]; exact perm2)
  refine ⟨.ref T5, 2, rfl, by decide, by decide, .inr ⟨T5, elsK [(T3, [1, 0]), (T4, [1, 0])], rfl, V5.sq, els_at (by decide) V5, by show 2 ≤ 76; decide, fun H6 sm6 => ⟨false, congrArg V.bl ?_, iteF ?_⟩⟩⟩
  · rw [closedV_ks (by decide) (by decide) V5.pm]
    show jB [[1, 0], [1, 0]] = false
    decide +kernel
  have sm16 := ((((u1.trans u2).trans sm2).trans u3).trans u4).trans (u5.trans sm6)
  -- the class of the order
  have ho6 := ho.to sm16
  have hl4 : (placesOf [0, 1, 2, 3] [3, 1, 2, 0]).length ≤ 7 := by decide
  refine ⟨.ref q, rfl, q, _, 4, rfl, ho6, FA.wb _ in4, hl4, FA.fit _ in4, fun H7 t7 qs sm7 ca cl => ?_⟩
  have V7 : ValAt K H7 4 t7 qs := ⟨ca.ft.sqT, ca.el, fun q hq => FA.perm _ (FA.reach in4 ((cl.mem q.2).mp (List.mem_map_of_mem hq)))⟩
  have hqs : qs.length ≤ 60 := by
    obtain ⟨U, hU, hm⟩ := FA.two _ in4 _ in4
    have := Pe.nodup_le (qs.map (·.2)) U cl.nd fun q hq => hm q (.inl ((cl.mem q).mp hq))
    rw [List.length_map] at this
    omega
  have hne : qs ≠ [] := fun e => by
    have := (cl.mem _).mpr .self
    rw [e] at this; cases this
  have j7 : closedV 4 (elsK qs) = true := by
    rw [closedV_ks (by decide) (by decide) V7.pm]
    exact judge_closed FA (by decide) (fun e => hne (List.map_eq_nil_iff.mp e)) (fun c hc => FA.reach in4 ((cl.mem c).mp hc)) cl.nd cl.asc fun c hc low => (cl.mem _).mpr (.step low ((cl.mem c).mp hc))
  refine ⟨.ref t7, 4, rfl, by decide, by decide, .inr ⟨t7, elsK qs, rfl, by rw [elsK_fst]; exact V7.sq, els_at (by decide) V7, by unfold elsK; rw [List.length_map]; omega, fun H8 sm8 => ⟨true, congrArg V.bl j7, iteT ?_⟩⟩⟩
  -- ((2, 1, 0),)
  refine ⟨by show 3 ≤ sizeLine; decide, fun T8 o8 n8 od8 => ?_⟩
  have u8 := Pf.same_upd (o := HO.frz o8 (.tup [V.int 2, V.int 1, V.int 0])) n8
  refine ⟨by show 1 ≤ sizeLine; decide, fun T9 n9 => ?_⟩
  have u9 := Pf.same_upd (o := .tup [V.ref T8]) n9
  have V9 : ValAt K _ 3 T9 [(T8, [2, 1, 0])] := wp (.inl (.inl upd_same)) (fun q hq => by rw [List.mem_singleton.mp hq]; exact ⟨o8, u9 _ _ upd_same, od8⟩) (fun q hq => by rw [List.mem_singleton.mp hq]; exact perm3)
  refine ⟨.ref T9, 3, rfl, by decide, by decide, .inr ⟨T9, elsK [(T8, [2, 1, 0])], rfl, V9.sq, els_at (by decide) V9, by show 1 ≤ 76; decide, fun H10 sm10 => ⟨false, congrArg V.bl ?_, true, rfl, iteT ?_⟩⟩⟩
  · rw [closedV_ks (by decide) (by decide) V9.pm]
    show jB [[2, 1, 0]] = false
    decide +kernel
  -- ((1, 0),)
  refine ⟨by show 2 ≤ sizeLine; decide, fun T10 o10 n10 od10 => ?_⟩
  have u10 := Pf.same_upd (o := HO.frz o10 (.tup [V.int 1, V.int 0])) n10
  refine ⟨by show 1 ≤ sizeLine; decide, fun T11 n11 => ?_⟩
  have u11 := Pf.same_upd (o := .tup [V.ref T10]) n11
  have V11 : ValAt K _ 2 T11 [(T10, [1, 0])] := wp (.inl (.inl upd_same)) (fun q hq => by rw [List.mem_singleton.mp hq]; exact ⟨o10, u11 _ _ upd_same, od10⟩) (fun q hq => by rw [List.mem_singleton.mp hq]; exact perm2)
  refine ⟨.ref T11, 2, rfl, by decide, by decide, .inr ⟨T11, elsK [(T10, [1, 0])], rfl, V11.sq, els_at (by decide) V11, by show 1 ≤ 76; decide, fun H12 sm12 => ⟨congrArg V.bl ?_, ?_⟩⟩⟩
  · rw [closedV_ks (by decide) (by decide) V11.pm]
    show jB [[1, 0]] = true
    decide +kernel
  · exact ((((sm1.trans sm16).trans (sm7.trans sm8)).trans (u8.trans u9)).trans sm10).trans ((u10.trans u11).trans sm12)
end
end Pd
end

section
set_option linter.all false
set_option maxRecDepth 100000
set_option maxHeartbeats 4000000
/-! law's loop; law, called. -/
namespace Pd
open PySem PySem.Spec PyProof.Rows L2 SlX Cf
section
variable {M : Model} {A : Around} {R : Rest} {c : Code} {fs : List Frame} {s : Shared} {env : Env} {H : Value → Sem PySem.Fin} {gd : Bool → Bool} {lv : List Value → List Value}
/-- if not a or not b: .., both being true -/
theorem cf_IfOr2 {a b : Expr} {body : List Stmt} {p1 p2 p3 pos : Pos} {K : Flow → Sem PySem.Fin} {Pa Pb : Shared → Prop}
    (h1 : ∀ Ka : Bool → Sem PySem.Fin, (∀ s', Pa s' → Conf M A R c (Ka true) fs s') → Conf M A R c ((isTrue a env (eval a env)).wrap Ka H gd lv) fs s)
    (h2 : ∀ s', Pa s' → ∀ Kb : Bool → Sem PySem.Fin, (∀ s'', Pb s'' → Conf M A R c (Kb true) fs s'') → Conf M A R c ((isTrue b env (eval b env)).wrap Kb H gd lv) fs s')
    (h3 : ∀ s'', Pb s'' → Conf M A R c (K .next) fs s'') :
    Conf M A R c ((exec (.If (.BoolOp .Or [.UnaryOp .Not a p1, .UnaryOp .Not b p2] p3) body [] pos) env).wrap K H gd lv) fs s := by
  refine cf_at (p' := pos) ?_
  show Conf M A R c ((allTrue .Or [.UnaryOp .Not a p1, .UnaryOp .Not b p2] env >>= fun b => if b = true then execs body env else execs [] env).wrap K H gd lv) fs s
  refine cf_wbindC ?_
  rw [arm_allTrue_cons]
  refine cf_wbindC ?_
  rw [arm_isTrue_UnaryOp]
  refine cf_wbindC (h1 _ fun s' ha => ?_)
  show Conf M A R c ((allTrue .Or [.UnaryOp .Not b p2] env).wrap _ H gd lv) fs s'
  rw [arm_allTrue_cons]
  refine cf_wbindC ?_
  rw [arm_isTrue_UnaryOp]
  refine cf_wbindC (h2 s' ha _ fun s'' hb => ?_)
  exact h3 s'' hb
/-- a call as a test, true -/
theorem cf_isCall {f : Expr} {es : List Expr} {kws : List Keyword} {cp : Pos} {Ka : Bool → Sem PySem.Fin} {Pa : Shared → Prop}
    (h : ∀ Kv : Value → Sem PySem.Fin, (∀ s', Pa s' → Conf M A R c (Kv (.bool true)) fs s') → Conf M A R c ((eval (.Call f es kws cp) env).wrap Kv H gd lv) fs s)
    (hk : ∀ s', Pa s' → Conf M A R c (Ka true) fs s') : Conf M A R c ((isTrue (.Call f es kws cp) env (eval (.Call f es kws cp) env)).wrap Ka H gd lv) fs s := by
  show Conf M A R c ((eval (.Call f es kws cp) env >>= fun v => standAt (Expr.pos (.Call f es kws cp)) >>= fun _ => holding [v] (truthy v)).wrap Ka H gd lv) fs s
  refine cf_wbindC (h _ fun s' hp => ?_)
  refine cf_wbindN (wpAny_standAt ?_)
  refine cf_wrapN (wpAny_holding (PySem.wpAny_truthy_bool ?_))
  exact hk s' hp
end
/-- the texts and promises under the call of _law_right -/
structure TxQ (P : Program) (w : World) (K : PySem.W.Frag) (mg : Str → Option Value) (base : Heap) (C : Addr) : Prop where
  R : TxR P w K mg base C
  tp : ∃ fP kV doc pm cdP ct oc an od osl, Pf.TxP K mg base fP kV doc pm cdP ct oc an od osl
  te : Pf.TxE P w K mg base GoodP (IsOrd K C) 5
  to_ : ∃ fE kV doc pm cdE ct oc an od osl, Pf.TxO K mg fE kV doc pm cdE ct oc an od osl
  lr : ∃ (f : Addr) (kV2 doc2 pm2 cd2 ct2 oc2 : Value) (an2 od2 : Option Addr) (osl2 : Array (Option Value)), K.lookup f = some ⟨oc2, od2, .func (Pf.dOf "_law_right" sRI2 kV2 doc2 pm2 cd2 ct2 oc2 an2 od2 osl2).fn, osl2⟩ ∧ PySem.W.codeIn K cd2 "_law_right" = true ∧
    L2.Binds K (Pf.dOf "_law_right" sRI2 kV2 doc2 pm2 cd2 ct2 oc2 an2 od2 osl2).fn ["_law_dice_here"] [] ∧ mg "_law_right" = some (.ref f) ∧ PySem.W.keepIn K (.ref f) = true
section
variable {P : Program} {w : World} {K : PySem.W.Frag} {mg : Str → Option Value} {base : Heap} {f L : Addr} {A : Around} {outer : List Env} {cd : Value} {C : Addr}
variable {σ : L2.St} {H : Hp} {s : Shared} {c : Code} {fs : List Frame} {R : Rest} {Hh : Value → Sem PySem.Fin} {gd : Bool → Bool} {lv : List Value → List Value}
/-- behind a call of _law_right -/
structure AfR (D : BC) (σ : L2.St) (d : Addr) (H : Hp) (s : Shared) (H' : Hp) (s' : Shared) : Prop where
  bi : BI D σ H' s'
  bare : AllBare s'.gens
  os : s'.os = s.os
  same : SameB d H H'
  dice : IsDice H' d
  keep : ∀ b o, s.heap.get? b = some o → H b = none → b ≠ D.L → b ∉ frs D.outer → (∀ v, o.data ≠ .cell v) → s'.heap.get? b = some o ∧ H' b = none
theorem cf_right {d : Addr} {p p' pos : Pos} (X : TxQ P w K mg base C) (FA : ∀ n, 3 ≤ n → n ≤ 5 → Facts P w n) (ok : (cLL P w K mg base f cd A outer L).Ok) (hov : (cLL P w K mg base f cd A outer L).A.over c fs = A.deeper (cLL P w K mg base f cd A outer L).env) (hnf : NoH fs = true)
    (hr : Room 30 (A.deeper (cLL P w K mg base f cd A outer L).env)) (I : BI (cLL P w K mg base f cd A outer L) σ H s) (hb : AllBare s.gens) (hσ : σ[2]? = some (some (.ref d))) (hd : IsDice H d)
    (Kv : Value → Sem PySem.Fin) (hk : ∀ s', (∃ H', AfR (cLL P w K mg base f cd A outer L) σ d H s H' s') → Conf (model P w) A R c (Kv (.bool true)) fs s') :
    Conf (model P w) A R c ((eval (.Call (.Name "_law_right" p) [.Name "_law_dice_here" p'] [] pos) (cLL P w K mg base f cd A outer L).env).wrap Kv Hh gd lv) fs s := by
  obtain ⟨XR, ⟨_, _, _, _, _, _, _, _, _, _, tp⟩, te, ⟨_, _, _, _, _, _, _, _, _, _, to_⟩, fr, kV2, doc2, pm2, cd2, ct2, oc2, an2, od2, osl2, lk, hcd, hbd, hm, hkp⟩ := X
  have J := I.inv ok (G := s.gens) hb (pins := allP (cLL P w K mg base f cd A outer L) H s.heap []) fun ⟨b, o⟩ hp => by
    obtain ⟨e1, e2, e3, e4, _, e6⟩ := mem_allP.mp hp
    exact ⟨e1, e2, e3, e4, e6⟩
  have hargs : PA ((cLL P w K mg base f cd A outer L).cx H s) [.Name "_law_dice_here" p'] _ := pa_cons (pv 2) pa_nil
  refine cf_callF (C := cLL P w K mg base f cd A outer L) (Qa := fun vs s1 => vs = [.ref d] ∧ Inv ((cLL P w K mg base f cd A outer L).cx H s) (allP (cLL P w K mg base f cd A outer L) H s.heap []) σ H s1)
    (B := fun _ s1 r s' => r = .ok (.ret (.bool true)) ∧ ∃ H', Cf.Ret P w base ((cLL P w K mg base f cd A outer L).env :: outer) H s1 H' s' ∧ SameB d H H' ∧ IsDice H' d) ok hov hnf I (by rfl) hm hkp (by decide) (by rfl) (by rfl) ?_ (fun vs s1 hq => ?_) fun vs s1 v s' hq hB => ?_
  · refine wpAny_mono (hargs.run pos _ s σ H (fun vs H1 => vs = [.ref d] ∧ H1 = H) J ⟨.ref d, hσ, rfl, rfl⟩) (fun us s1 hq => ?_) fun _ _ z => z
    obtain ⟨vs, H1, J1, rv, rfl, rfl⟩ := hq
    refine ⟨J1.kIn, ?_, J1⟩
    obtain ⟨u, rfl, ru⟩ := rv.one
    rw [show u = Value.ref d from ru]
  · obtain ⟨rfl, J1⟩ := hq
    have hfl : ∀ b ∈ frs ((cLL P w K mg base f cd A outer L).env :: outer), b < s1.heap.objs.size := fun b hb2 => by
      have hL : L < s1.heap.objs.size := (BI.of (s' := s1) J1 rfl).lt
      rcases List.mem_cons.mp (show b ∈ L :: frs outer from hb2) with z | z
      · rw [z]; exact hL
      · exact Nat.lt_trans (ok.frlt b z) hL
    refine call_imp (lr_call (s := s1) (H := H) (d := d) XR FA tp te to_ lk hcd hbd hr J1.env0 hfl hd) fun r s' hB => ?_
    obtain ⟨v, e1, rfl, q⟩ := hB
    exact ⟨_, e1, e1, q⟩
  · obtain ⟨rfl, J1⟩ := hq
    obtain ⟨e, H', Rt, sB, hd'⟩ := hB
    obtain rfl : v = .bool true := by cases e; rfl
    have I1 : BI (cLL P w K mg base f cd A outer L) σ H s1 := BI.of J1 rfl
    refine hk s' ⟨H', Ret.bi ok I1 Rt, Rt.bare, Rt.os.trans J1.os, sB, hd', fun b o e1 n h1 h2 hc => ?_⟩
    obtain ⟨z1, z2, _⟩ := J1.pin (b, o) (List.mem_append_right _ (mem_allP.mpr ⟨e1, n, h1, h2, by simp, hc⟩))
    exact Rt.keep b o z1 z2 (fun hm2 => (List.mem_cons.mp (show b ∈ L :: frs outer from hm2)).elim h1 h2) hc
end
end Pd
end

section
set_option linter.all false
set_option maxRecDepth 100000
set_option maxHeartbeats 4000000
/-! law, called. -/
namespace Pd
open PySem PySem.Spec PyProof.Rows L2 SlX Cf
abbrev lFor : Stmt := (defBody sLL).getD 0 (.Pass ⟨0, 0, 0, 0⟩)
abbrev tgL : Expr := Pf.fTg lFor
abbrev bdL : List Stmt := Pf.fBody lFor
section
variable {P : Program} {w : World} {K : PySem.W.Frag} {mg : Str → Option Value} {base : Heap} {f L : Addr} {A : Around} {outer : List Env} {cd : Value} {C : Addr} {fs : List Frame} {R : Rest}
/-- law's state, between its rows -/
structure LwS (D : BC) (a : Addr) (H0 : Hp) (s0 : Shared) (σ : L2.St) (H : Hp) (s : Shared) : Prop where
  bi : BI D σ H s
  bare : AllBare s.gens
  os : s.os = s0.os
  same : Cf.Same H0 H
  sg : ∃ y1 y2, σ = [some (.ref a), y1, y2, none]
theorem lw_loop {tot : Nat} {fp : List Addr} {it a : Addr} {tn : Nat → Heap → Prop} {ns : List Int} {H0 : Hp} {s0 : Shared} (X : TxQ P w K mg base C) (Y : TxL P w K mg base C) (FA : ∀ n, 3 ≤ n → n ≤ 5 → Facts P w n) (ok : (cLL P w K mg base f cd A outer L).Ok)
    (hov : A.over (.forLoop tgL (.ref it) bdL [] (cLL P w K mg base f cd A outer L).env) fs = A.deeper (cLL P w K mg base f cd A outer L).env) (hnf : NoH fs = true) (hr : Room 30 (A.deeper (cLL P w K mg base f cd A outer L).env))
    (hns : ∀ H, Cf.Same H0 H → SqL K H a (ns.map V.int)) (hl : ns.length ≤ 1000) (htot : tot ≤ 2) (T : Turn P w K tgL (Itr 0 tot) fp it tn)
    (hDone : ∀ σ H s, LwS (cLL P w K mg base f cd A outer L) a H0 s0 σ H s → Conf (model P w) A R (.forLoop tgL (.ref it) bdL [] (cLL P w K mg base f cd A outer L).env) (.pure (.again (.block [] (cLL P w K mg base f cd A outer L).env))) fs s) :
    ∀ (m i : Nat) (σ : L2.St) (H : Hp) (s : Shared), i + m = tot → LwS (cLL P w K mg base f cd A outer L) a H0 s0 σ H s → tn i s.heap → (∀ b ∈ fp, H b = none ∧ b ≠ L ∧ b ∉ frs outer ∧ L ≤ b) →
      Conf (model P w) A R (.forLoop tgL (.ref it) bdL [] (cLL P w K mg base f cd A outer L).env) ((model P w).den (.forLoop tgL (.ref it) bdL [] (cLL P w K mg base f cd A outer L).env)) fs s := by
  intro m
  induction m with
  | zero =>
    intro i σ H s hi S st hfp
    refine cf_turn fun Hh => ?_
    rw [hov]
    have J := S.bi.inv ok (G := s.gens) S.bare (pins := []) fun p hp => nomatch hp
    refine wpAny_mono (T.done ((cLL P w K mg base f cd A outer L).cx H s) rfl rfl rfl rfl i [] s σ H NoX J (fun b hb => ?_) st (by show tot ≤ i; omega)) (fun r s1 hq => ?_) fun _ _ z => z
    · obtain ⟨f1, f2, f3, f4⟩ := hfp b hb
      refine ⟨f1, f2, f3, .inr ?_, fun x c e => ?_, fun p hp => by cases hp⟩
      · show (cut L s.heap).objs.size ≤ b
        rw [cut_size]; exact Nat.le_trans (Nat.min_le_left _ _) f4
      · have := ok.flat x
        rw [show (cLL P w K mg base f cd A outer L).env.cells.lookup x = some c from e] at this; cases this
    · obtain ⟨rfl, J1⟩ := hq
      exact hDone σ H s1 ⟨BI.of J1 rfl, J1.bare, J1.os.trans S.os, S.same, S.sg⟩
  | succ m ih =>
    intro i σ H s hi S st hfp
    refine cf_turn fun Hh => ?_
    rw [hov]
    have J := S.bi.inv ok (G := s.gens) S.bare (pins := []) fun p hp => nomatch hp
    have fpo : ∀ {H' : Hp}, (∀ b ∈ fp, H' b = none) → ∀ b ∈ fp, FpOk ((cLL P w K mg base f cd A outer L).cx H s) [] H' b := fun hn b hb => by
      obtain ⟨f1, f2, f3, f4⟩ := hfp b hb
      refine ⟨hn b hb, f2, f3, .inr ?_, fun x c e => ?_, fun p hp => by cases hp⟩
      · show (cut L s.heap).objs.size ≤ b
        rw [cut_size]; exact Nat.le_trans (Nat.min_le_left _ _) f4
      · have := ok.flat x
        rw [show (cLL P w K mg base f cd A outer L).env.cells.lookup x = some c from e] at this; cases this
    refine wpAny_mono (T.item ((cLL P w K mg base f cd A outer L).cx H s) rfl rfl rfl rfl i [] s σ H NoX J (fpo fun b hb => (hfp b hb).1) st (by show i < tot; omega)) (fun r s1 hq => ?_) fun _ _ z => z
    obtain ⟨u, rfl, h4⟩ := hq
    refine wpAny_mono h4 (fun _ s2 hq => ?_) fun _ _ z => z
    obtain ⟨x, H', I5, rx, ⟨rfl, rfl⟩, st5, fr5⟩ := hq
    have I5' := I5.pinned (fpo fr5) (T.obj _ _ st5)
    obtain ⟨y1, y2, rfl⟩ := S.sg
    have G1 : PG ((cLL P w K mg base f cd A outer L).cx H' s) tgL (gName 1) := pg_name (i := 1) scLL.nd rfl (.inl rfl)
    refine wpAny_mono (G1.run _ s2 _ H' (.int (0 + (i : Int))) u (fun σ' H'' => σ' = [some (.ref a), some (.int (i : Int)), y2, none] ∧ H'' = H') I5' rx ⟨by rw [Int.zero_add]; rfl, rfl⟩) (fun _ s3 hq => ?_) fun _ _ z => z
    obtain ⟨σ6, H6, I6, rfl, rfl⟩ := hq
    have S1 : PS ((cLL P w K mg base f cd A outer L).cx H6 s) (bdL.getD 0 (.Pass ⟨0, 0, 0, 0⟩)) _ := ps_set (i := 2) scLL.nd rfl (.inl rfl) (pe_cal Y.ld hr (by decide) (by rfl) (pa_cons (pv 0) (pa_cons (pv 1) pa_nil)))
    refine cf_cons (cf_wrapN ?_)
    rw [hov]
    refine wpAny_mono (S1.run _ s3 _ H6 { nx := fun σ' H'' => ∃ d, σ' = [some (.ref a), some (.int (i : Int)), some (.ref d), none] ∧ Cf.Same H6 H'' ∧ H6 d = none ∧ IsDice H'' d, rt := fun _ _ => False } I6 ?_) (fun r s4 hq => ?_) fun _ _ z => z
    · refine ⟨.ref a, rfl, .int (i : Int), rfl, a, ns, i, rfl, hns _ S.same, hl, by omega, fun H7 d sm7 nd hd7 => ?_⟩
      exact ⟨d, rfl, sm7, nd, hd7⟩
    cases r with
    | brk => obtain ⟨_, _, _, q⟩ := hq; exact q.elim
    | cont => obtain ⟨_, _, _, q⟩ := hq; exact q.elim
    | ret u => obtain ⟨_, _, _, _, _, q⟩ := hq; exact q.elim
    | next =>
    obtain ⟨σ7, H7, I7, d, rfl, sm7, nd, hd7⟩ := hq
    have B7 : BI (cLL P w K mg base f cd A outer L) [some (.ref a), some (.int (i : Int)), some (.ref d), none] H7 s4 := BI.of I7 rfl
    have os7 : s4.os = s0.os := I7.os.trans S.os
    -- the iterator's objects at s4
    have fp4 : ∀ b ∈ fp, ∃ o, s4.heap.get? b = some o ∧ H7 b = none ∧ (∀ v, o.data ≠ .cell v) ∧ s2.heap.get? b = some o := fun b hb => by
      obtain ⟨o, e, hc⟩ := T.obj _ _ st5 b hb
      obtain ⟨z1, z2, _⟩ := I7.pin (b, o) (List.mem_append_right _ (List.mem_append_right _ (mem_pinsAt hb e)))
      exact ⟨o, z1, z2, hc, e⟩
    refine cf_cons (cf_IfOr2 (Pa := fun s' => ∃ H', AfR (cLL P w K mg base f cd A outer L) [some (.ref a), some (.int (i : Int)), some (.ref d), none] d H7 s4 H' s')
      (Pb := fun s'' => ∃ s' H' H'', AfR (cLL P w K mg base f cd A outer L) [some (.ref a), some (.int (i : Int)), some (.ref d), none] d H7 s4 H' s' ∧ AfR (cLL P w K mg base f cd A outer L) [some (.ref a), some (.int (i : Int)), some (.ref d), none] d H' s' H'' s'')
      (fun Ka hKa => cf_isCall (fun Kv hKv => cf_right X FA ok hov hnf hr B7 I7.bare rfl hd7 Kv hKv) hKa)
      (fun s' ⟨H', F1⟩ Kb hKb => cf_isCall (Pa := fun s'' => ∃ H'', AfR (cLL P w K mg base f cd A outer L) [some (.ref a), some (.int (i : Int)), some (.ref d), none] d H' s' H'' s'') (fun Kv hKv => cf_right X FA ok hov hnf hr F1.bi F1.bare rfl F1.dice Kv hKv) fun s'' ⟨H'', F2⟩ => hKb s'' ⟨s', H', H'', F1, F2⟩)
      fun s'' ⟨s', H', H'', F1, F2⟩ => ?_)
    refine cf_nil (cf_again rfl (ih (i + 1) _ H'' s'' (by omega) ⟨F2.bi, F2.bare, (F2.os.trans F1.os).trans os7, fun b z e => ?_, _, _, rfl⟩ ?_ fun b hb => ?_))
    · have e6 := S.same b z e
      have bd : b ≠ d := fun zz => by rw [zz, nd] at e6; cases e6
      exact F2.same b z bd (F1.same b z bd (sm7 _ _ e6))
    · refine T.keep _ _ _ st5 fun b hb o e => ?_
      obtain ⟨o2, z1, z2, z3, z4⟩ := fp4 b hb
      obtain rfl : o = o2 := Option.some.inj (e.symm.trans z4)
      obtain ⟨_, f2, f3, _⟩ := hfp b hb
      obtain ⟨g1, g2⟩ := F1.keep b o z1 z2 f2 f3 z3
      exact (F2.keep b o g1 g2 f2 f3 z3).1
    · obtain ⟨o2, z1, z2, z3, z4⟩ := fp4 b hb
      obtain ⟨_, f2, f3, f4⟩ := hfp b hb
      obtain ⟨g1, g2⟩ := F1.keep b o2 z1 z2 f2 f3 z3
      exact ⟨(F2.keep b o2 g1 g2 f2 f3 z3).2, f2, f3, f4⟩
end
end Pd
end

section
set_option linter.all false
set_option maxRecDepth 100000
set_option maxHeartbeats 4000000
/-! law, called. -/
namespace Pd
open PySem PySem.Spec PyProof.Rows L2 SlX Cf
section
variable {P : Program} {w : World} {K : PySem.W.Frag} {mg : Str → Option Value} {base : Heap} {f : Addr} {A : Around} {outer : List Env} {C : Addr}
variable {kV2 doc2 pm2 cd2 ct2 oc2 : Value} {an2 od2 : Option Addr} {osl2 : Array (Option Value)}
theorem lw_call {s : Shared} {H : Hp} {a : Addr} {ns : List Int} (X : TxQ P w K mg base C) (Y : TxL P w K mg base C) (FA : ∀ n, 3 ≤ n → n ≤ 5 → Facts P w n)
    (lk : K.lookup f = some ⟨oc2, od2, .func (Pf.dOf "law" sLL kV2 doc2 pm2 cd2 ct2 oc2 an2 od2 osl2).fn, osl2⟩) (hcd : PySem.W.codeIn K cd2 "law" = true) (hb : L2.Binds K (Pf.dOf "law" sLL kV2 doc2 pm2 cd2 ct2 oc2 an2 od2 osl2).fn ["_law_script"] [])
    (hr : Room 40 A) (e0 : Env0 P w K mg base A outer s H) (hfl : ∀ b ∈ frs outer, b < s.heap.objs.size) (hns : ∀ H', Cf.Same H H' → SqL K H' a (ns.map V.int)) (hl : ns.length ≤ 1000) :
    Call (model P w) A (.call (.ref f) ⟨[.ref a], []⟩) (fun r s' => r = .ok (.ret (.bool true)) ∧ s'.os = s.os ∧ AllBare s'.gens ∧ (∀ b o, base.get? b = some o → s'.heap.get? b = some o) ∧ ∃ H', Cf.Same H H' ∧ HOk P w H' s'.heap) s := by
  have KX : K.In s.heap := e0.mod.kin.keeps fun b o e => (e0.bs b o e).1
  have hbt := hb s [.ref a] KX rfl
  refine call_conf (d := Pf.dOf "law" sLL kV2 doc2 pm2 cd2 ct2 oc2 an2 od2 osl2) (N := NLL) (ps := ["_law_script"]) (us := [.ref a]) (vs := [.ref a]) (k := 40) lk hcd scLL hr e0 hbt (.cons rfl .nil) rfl fun s1 os1 gens1 keep1 I1 Hh => ?_
  have ok : (cLL P w K mg base f cd2 A outer s.heap.objs.size).Ok := okLL e0.mod hr.hd e0.frames e0.bsz hfl
  have hbare1 : AllBare s1.gens := by rw [gens1]; exact e0.bare
  have hr39 : Room 39 (A.deeper (cLL P w K mg base f cd2 A outer s.heap.objs.size).env) := Room.deeper (k := 39) hr _
  have J1 := BI.inv ok I1 (G := s1.gens) hbare1 (pins := []) fun p hp => nomatch hp
  have B := X.R.B
  have PIr : PI ((cLL P w K mg base f cd2 A outer s.heap.objs.size).cx H s1) tgL (Pf.fIt lFor) _ := pi_range1 (by rfl) B.range (pa_cons (pe_callB (call_max2 rfl) (by rfl) Y.max (by decide +kernel) (pa_cons pe_int (pa_cons (pe_callB (call_min2 rfl) (by rfl) Y.min (by decide +kernel) (pa_cons pe_int (pa_cons (pe_callB call_len_seq (by rfl) B.len PySem.boot_len (pa_cons (pv 0) pa_nil)) pa_nil))) pa_nil))) pa_nil)
  refine cf_cons (cf_For ?_ fun _ => rfl)
  rw [GenW.over_func]
  refine wpAny_mono (PIr.run [] s1 _ H (fun J H' => (∃ tot, tot ≤ 2 ∧ J = Itr 0 tot) ∧ H' = H) J1 ?_) (fun v s2 h2 => wpAny_mono h2 (fun itv s3 h3 p lv' => ?_) fun _ _ z => z) fun _ _ z => z
  · have hj : ∀ k : Int, 0 ≤ k → (1 : Int) ≤ (if (if k < 2 then k else 2) > 1 then (if k < 2 then k else 2) else 1) ∧ (if (if k < 2 then k else 2) > 1 then (if k < 2 then k else 2) else 1) ≤ 2 := fun k hk => by
      split <;> split at * <;> omega
    have hk0 : (0 : Int) ≤ ((ns.map V.int).length : Int) := by omega
    refine ⟨.ref a, rfl, a, ns.map V.int, rfl, .inl (hns H (Cf.Same.refl _)), 2, ((ns.map V.int).length : Int), rfl, 1, _, rfl, _, rfl, ?_, ?_, ⟨_, ?_, rfl⟩, rfl⟩
    · have := (hj _ hk0).1
      omega
    · have := (hj _ hk0).2
      omega
    · have := (hj _ hk0).2
      omega
  obtain ⟨it, fp, tn, J, H3, rfl, I3, T, st3, f3, ⟨tot, htot, rfl⟩, rfl⟩ := h3
  have nolook : ∀ {x c}, (cLL P w K mg base f cd2 A outer s.heap.objs.size).env.cells.lookup x = some c → False := fun {x c} e => by rw [ok.flat x] at e; cases e
  refine lw_loop (a := a) (ns := ns) (H0 := H3) (s0 := s) X Y FA ok (by rw [GenW.over_loop rfl rfl, GenW.over_func]) rfl (hr39.mono (by decide)) hns hl htot T (fun σ H4 s4 S => ?_) tot 0 _ H3 s3 (Nat.zero_add _) ⟨BI.of I3 rfl, I3.bare, I3.os.trans os1, Cf.Same.refl _, none, none, rfl⟩ st3 fun b hb => ?_
  · obtain ⟨y1, y2, rfl⟩ := S.sg
    refine cf_again rfl (cf_block (cf_leaf (.ok .next) ?_))
    show Conf (model P w) A _ _ ((execs ((defBody sLL).drop 1) (cLL P w K mg base f cd2 A outer s.heap.objs.size).env).wrap _ _ id id) [] s4
    refine cf_wrapN ?_
    rw [GenW.over_func]
    have J4 := S.bi.inv ok (G := s4.gens) S.bare (pins := []) fun p hp => nomatch hp
    obtain ⟨t, ht, hread⟩ := lw_rest (f := f) (L := s.heap.objs.size) (cd := cd2) (s := s4) (H := H4) (a := some (.ref a)) (y1 := y1) (y2 := y2) X.R Y (FA 4 (by decide) (by decide)) (hr39.mono (by decide))
    refine wpAny_mono (ht.run [] _ _ H4 _ J4 hread) (fun r s5 hq => ?_) fun _ _ z => z
    cases r with
    | next => obtain ⟨_, _, _, q⟩ := hq; exact q.elim
    | brk => obtain ⟨_, _, _, q⟩ := hq; exact q.elim
    | cont => obtain ⟨_, _, _, q⟩ := hq; exact q.elim
    | ret u =>
      obtain ⟨v, σ', H5, J5, rv, rfl, q⟩ := hq
      obtain rfl : u = .bool true := rv
      exact cf_back (.ok (.ret (.bool true))) ⟨rfl, J5.os.trans S.os, J5.bare, fun b o e => (J5.bs b o e).1, H5, S.same.trans q, J5.hok⟩
  · obtain ⟨f1, f2, f3', f4, f5, f6⟩ := f3 b hb
    refine ⟨f1, f2, f3', ?_⟩
    rcases f4 with q | q
    · cases q
    · have q' : (cut s.heap.objs.size s1.heap).objs.size ≤ b := q
      rw [cut_size, Nat.min_eq_left (Nat.le_of_lt I1.lt)] at q'
      exact q'
end
end Pd
end

section
set_option linter.all false
set_option maxRecDepth 100000
set_option maxHeartbeats 4000000
/-! The finite facts. -/
namespace Pd
open PySem PySem.Spec PyProof.Rows L2
/-! ### all permutations are listed -/
theorem outs_all : ∀ (m : Nat) (st lf p : List Int), lf.length = m → p.Perm lf → st ++ p ∈ Pf.outsP m st lf
  | 0, st, lf, p, hl, hp => by
    obtain rfl : lf = [] := List.eq_nil_of_length_eq_zero hl
    obtain rfl : p = [] := List.Perm.eq_nil hp
    rw [List.append_nil]
    exact List.mem_singleton.mpr rfl
  | m + 1, st, lf, p, hl, hp => by
    cases p with
    | nil => have := hp.length_eq; simp at this; omega
    | cons x p =>
      have hx : x ∈ lf := hp.mem_iff.mp List.mem_cons_self
      obtain ⟨i, hi, e⟩ := List.getElem_of_mem hx
      have h2 : lf.Perm (x :: (lf.take i ++ lf.drop (i + 1))) := by
        conv => lhs; rw [← List.take_append_drop i lf, List.drop_eq_getElem_cons hi, e]
        exact List.perm_middle
      have h3 : p.Perm (lf.take i ++ lf.drop (i + 1)) := (hp.trans h2).cons_inv
      have hl3 : (lf.take i ++ lf.drop (i + 1)).length = m := by rw [List.length_append, List.length_take, List.length_drop]; omega
      have ih := outs_all m (st ++ [x]) _ p hl3 h3
      rw [List.append_assoc] at ih
      show st ++ x :: p ∈ (List.range (m + 1)).flatMap fun i => Pf.outsP m (st ++ [lf.getD i 0]) (lf.take i ++ lf.drop (i + 1))
      refine List.mem_flatMap.mpr ⟨i, List.mem_range.mpr (by omega), ?_⟩
      have eg : lf.getD i 0 = x := by rw [List.getD_eq_getElem?_getD, List.getElem?_eq_getElem hi, e]; rfl
      rw [eg]
      exact ih
theorem perm_listed {n : Nat} {p : List Int} (h : p.Perm (Pf.rangeI n)) : p ∈ Pf.outsP n [] (Pf.rangeI n) := outs_all n [] (Pf.rangeI n) p (by unfold Pf.rangeI; rw [List.length_map, List.length_range]) h
/-! ### going back -/
def iterN (low : Bool) : Nat → List Int → List Int
  | 0, p => p
  | k + 1, p => iterN low k (nextP low p)
theorem Reach.trans {p q r : List Int} (h1 : Reach p q) (h2 : Reach q r) : Reach p r := by
  induction h2 with
  | self => exact h1
  | step low _ ih => exact .step low ih
theorem reach_iter (low : Bool) : ∀ (k : Nat) (p : List Int), Reach p (iterN low k p)
  | 0, p => .self
  | k + 1, p => Reach.trans (.step low .self) (reach_iter low k (nextP low p))
theorem back_one {low : Bool} {p : List Int} (h : iterN low 12 p = p) : Reach (nextP low p) p := by
  have := reach_iter low 11 (nextP low p)
  have e : iterN low 11 (nextP low p) = iterN low 12 p := rfl
  rw [e, h] at this
  exact this
/-! ### the checks -/
def codeI (p : List Int) : Nat := p.foldl (fun a x => a * 10 + x.toNat) 0
def big35 : List Nat := [12403, 12430, 13402, 13420, 14023, 14230, 14302, 20341, 21340, 23041, 23140, 24013, 24130, 24301, 30142, 30412, 30421, 31240, 32401, 32410, 34021, 34102, 34210, 40132, 40231, 40312, 41023, 41203, 41320, 42013, 42031, 42310, 43102, 43120, 43201]
def big15 : List Nat := [13042, 14032, 14203, 14320, 20413, 20431, 21403, 21430, 30241, 31042, 32140, 40321, 41032, 42103, 43210]
/-- the part of a whole order -/
def part (p : List Int) : Nat := if big35.elem (codeI p) then 1 else if big15.elem (codeI p) then 2 else 0
def chkP (n : Nat) : Bool := (Pf.outsP n [] (Pf.rangeI n)).all fun p => (upOk p == wholeL (Pf.rangeI n) p) && (!wholeL (Pf.rangeI n) p || ((movedL false p == nextP false p) && (movedL true p == nextP true p) && decide (ixMax p + 1 < p.length))) && p.isPerm (Pf.rangeI n) && decide (p.length = n)
def chkO (n : Nat) : Bool := (Pf.ordersOf n).all fun p => wholeL (Pf.rangeI n) p && wholeB p && (Pf.ordersOf n).elem (nextP false p) && (Pf.ordersOf n).elem (nextP true p) && (iterN false 12 p == p) && (iterN true 12 p == p) && (part (nextP false p) == part p) && (part (nextP true p) == part p)
def chkH (n : Nat) : Bool := (Pf.ordersOf n).all fun p => decide (reduceHash (Builtin.Tuple.tupleHashOf (p.map hashInt)) ≠ Pe.noneHash)
def chkC (n : Nat) : Bool := [0, 1, 2].all fun i => [0, 1, 2].all fun j => decide (((Pf.ordersOf n).filter fun q => part q == i || part q == j).length ≤ 60)
def chkA (n : Nat) : Bool := ascT (Pf.ordersOf n) && decide (0 < (Pf.ordersOf n).length) && decide ((Pf.ordersOf n).length ≤ 76)
theorem chkP3 : chkP 3 = true := by decide +kernel
theorem chkP4 : chkP 4 = true := by decide +kernel
theorem chkP5 : chkP 5 = true := by decide +kernel
theorem chkO3 : chkO 3 = true := by decide +kernel
theorem chkO4 : chkO 4 = true := by decide +kernel
theorem chkO5 : chkO 5 = true := by decide +kernel
theorem chkH3 : chkH 3 = true := by decide +kernel
theorem chkH4 : chkH 4 = true := by decide +kernel
theorem chkH5 : chkH 5 = true := by decide +kernel
theorem chkC3 : chkC 3 = true := by decide +kernel
theorem chkC4 : chkC 4 = true := by decide +kernel
theorem chkC5 : chkC 5 = true := by decide +kernel
theorem chkA3 : chkA 3 = true := by decide +kernel
theorem chkA4 : chkA 4 = true := by decide +kernel
theorem chkA5 : chkA 5 = true := by decide +kernel
end Pd
end

section
set_option linter.all false
set_option maxRecDepth 100000
set_option maxHeartbeats 4000000
/-! What the law leans on, from the checks. -/
namespace Pd
open PySem PySem.Spec PyProof.Rows L2
theorem chkP_at {n : Nat} (h : chkP n = true) {p : List Int} (hp : p ∈ Pf.outsP n [] (Pf.rangeI n)) :
    upOk p = wholeL (Pf.rangeI n) p ∧ (wholeL (Pf.rangeI n) p = true → movedL false p = nextP false p ∧ movedL true p = nextP true p ∧ ixMax p + 1 < p.length) ∧ p.Perm (Pf.rangeI n) ∧ p.length = n := by
  have z := List.all_eq_true.mp h p hp
  simp only [Bool.and_eq_true, beq_iff_eq, decide_eq_true_eq, Bool.or_eq_true, Bool.not_eq_true'] at z
  obtain ⟨⟨⟨z1, z2⟩, z3⟩, z4⟩ := z
  refine ⟨z1, fun hw => ?_, List.isPerm_iff.mp z3, z4⟩
  rcases z2 with z2 | z2
  · rw [hw] at z2; cases z2
  · exact ⟨z2.1.1, z2.1.2, z2.2⟩
structure AtO (n : Nat) (p : List Int) : Prop where
  w : wholeL (Pf.rangeI n) p = true
  wb : wholeB p = true
  s0 : nextP false p ∈ Pf.ordersOf n
  s1 : nextP true p ∈ Pf.ordersOf n
  b0 : iterN false 12 p = p
  b1 : iterN true 12 p = p
  p0 : part (nextP false p) = part p
  p1 : part (nextP true p) = part p
theorem chkO_at {n : Nat} (h : chkO n = true) {p : List Int} (hp : p ∈ Pf.ordersOf n) : AtO n p := by
  have z := List.all_eq_true.mp h p hp
  simp only [Bool.and_eq_true, beq_iff_eq, List.elem_iff] at z
  obtain ⟨⟨⟨⟨⟨⟨⟨z1, z2⟩, z3⟩, z4⟩, z5⟩, z6⟩, z7⟩, z8⟩ := z
  exact ⟨z1, z2, z3, z4, z5, z6, z7, z8⟩
theorem part_lt (p : List Int) : part p = 0 ∨ part p = 1 ∨ part p = 2 := by
  unfold part
  split
  · exact .inr (.inl rfl)
  · split
    · exact .inr (.inr rfl)
    · exact .inl rfl
theorem facts_of {P : Program} {w : World} {n : Nat} (h2 : 2 ≤ n) (h7 : n ≤ 7) (cP : chkP n = true) (cO : chkO n = true) (cH : chkH n = true) (cC : chkC n = true) (cA : chkA n = true) : Facts P w n := by
  have sub : ∀ {p}, p ∈ Pf.ordersOf n → p ∈ Pf.outsP n [] (Pf.rangeI n) := fun hp => (List.mem_filter.mp hp).1
  have step : ∀ p low, p ∈ Pf.ordersOf n → nextP low p ∈ Pf.ordersOf n := fun p low hp => by
    cases low
    · exact (chkO_at cO hp).s0
    · exact (chkO_at cO hp).s1
  have reach : ∀ {p q}, p ∈ Pf.ordersOf n → Reach p q → q ∈ Pf.ordersOf n ∧ part q = part p := fun {p q} hp h => by
    induction h with
    | self => exact ⟨hp, rfl⟩
    | step low _ ih =>
      refine ⟨step _ low ih.1, ?_⟩
      have z := chkO_at cO ih.1
      cases low
      · exact z.p0.trans ih.2
      · exact z.p1.trans ih.2
  have sym : ∀ p q, p ∈ Pf.ordersOf n → Reach p q → Reach q p := fun p q hp h => by
    induction h with
    | self => exact .self
    | step low h ih =>
      have z := chkO_at cO (reach hp h).1
      refine Reach.trans (back_one ?_) ih
      cases low
      · exact z.b0
      · exact z.b1
  have perm : ∀ p ∈ Pf.ordersOf n, p.Perm (Pf.rangeI n) := fun p hp => (chkP_at cP (sub hp)).2.2.1
  have two : ∀ p ∈ Pf.ordersOf n, ∀ r ∈ Pf.ordersOf n, ∃ U : List (List Int), U.length ≤ 60 ∧ ∀ q, Reach p q ∨ Reach r q → q ∈ U := fun p hp r hr => by
    refine ⟨(Pf.ordersOf n).filter fun q => part q == part p || part q == part r, ?_, fun q h => ?_⟩
    · have hpi : part p ∈ [0, 1, 2] := by rcases part_lt p with h | h | h <;> rw [h] <;> decide
      have hri : part r ∈ [0, 1, 2] := by rcases part_lt r with h | h | h <;> rw [h] <;> decide
      have z := List.all_eq_true.mp (List.all_eq_true.mp cC (part p) hpi) (part r) hri
      exact of_decide_eq_true z
    · rcases h with h | h
      · exact List.mem_filter.mpr ⟨(reach hp h).1, by rw [(reach hp h).2]; simp⟩
      · exact List.mem_filter.mpr ⟨(reach hr h).1, by rw [(reach hr h).2]; simp⟩
  have ix : ∀ p, p.Perm (Pf.rangeI n) → wholeL (Pf.rangeI n) p = true → ixMax p + 1 < p.length := fun p hp hw => ((chkP_at cP (perm_listed hp)).2.1 hw).2.2
  unfold chkA at cA
  simp only [Bool.and_eq_true, decide_eq_true_eq] at cA
  refine ⟨fun p hp => (chkP_at cP (perm_listed hp)).1, fun p low hp hw => ?_, ix, perm, fun p hp => (chkO_at cO hp).w, fun p hp => (chkO_at cO hp).wb, step, sym, fun p hp => ?_, two, cA.1.1, cA.1.2, cA.2, fun t ht => ?_⟩
  · have z := (chkP_at cP (perm_listed hp)).2.1 hw
    cases low
    · exact z.1
    · exact z.2.1
  · obtain ⟨U, hU, hm⟩ := two p hp p hp
    refine ⟨⟨U, ⟨fun q h => hm q (.inl h), by omega, fun q h => ?_, fun q h => ?_, fun q h => ?_⟩, by omega⟩, fun q h => (perm_one h7 (perm q (reach hp h).1)).1, fun q h => (perm_one h7 (perm q (reach hp h).1)).2, by omega⟩
    · exact ix q (perm q (reach hp h).1) (chkO_at cO (reach hp h).1).w
    · rw [(perm_one h7 (perm q (reach hp h).1)).1]; omega
    · have z := of_decide_eq_true (List.all_eq_true.mp cH q (reach hp h).1)
      exact z
  · have z := chkP_at cP ht
    exact ⟨by omega, by omega, by rw [z.2.2.2]; exact z.2.2.1⟩
theorem facts {P : Program} {w : World} (n : Nat) (h3 : 3 ≤ n) (h5 : n ≤ 5) : Facts P w n := by
  have : n = 3 ∨ n = 4 ∨ n = 5 := by omega
  rcases this with rfl | rfl | rfl
  · exact facts_of (by decide) (by decide) chkP3 chkO3 chkH3 chkC3 chkA3
  · exact facts_of (by decide) (by decide) chkP4 chkO4 chkH4 chkC4 chkA4
  · exact facts_of (by decide) (by decide) chkP5 chkO5 chkH5 chkC5 chkA5
end Pd
end

section
set_option linter.all false
set_option maxRecDepth 100000
set_option maxHeartbeats 4000000
/-! The law's row, from its text. -/
namespace Pd
open PySem PySem.W PySem.Calls PyProof.Rows L2 SlX Cf
/-- what the text must tell, for one heap below -/
def TxAll (P : Program) (w : World) (K : PySem.W.Frag) (mg : Str → Option Value) (base : Heap) (fa : Addr) : Prop :=
  ∃ C, TxQ P w K mg base C ∧ TxL P w K mg base C ∧ ∃ (kV2 doc2 pm2 cd2 ct2 oc2 : Value) (an2 od2 : Option Addr) (osl2 : Array (Option Value)), K.lookup fa = some ⟨oc2, od2, .func (Pf.dOf "law" sLL kV2 doc2 pm2 cd2 ct2 oc2 an2 od2 osl2).fn, osl2⟩ ∧ PySem.W.codeIn K cd2 "law" = true ∧
    L2.Binds K (Pf.dOf "law" sLL kV2 doc2 pm2 cd2 ct2 oc2 an2 od2 osl2).fn ["_law_script"] []
theorem room40 : Room 40 callerA := ⟨rfl, by decide, by decide⟩
/-- the law's call, at the heap behind the top -/
theorem law_callC {P : Program} {w : World} {K : PySem.W.Frag} {mg mb : Str → Option Value} {fa a : Addr} {s₁ : Shared} {vs : List Value} {ns : List Int}
    (inK : K.In s₁.heap) (nsM : s₁.heap.Ns mainGlobals mg) (hb : s₁.heap.Ns builtinsNs mb) (bltAt : ∀ x : Str, x ≠ "__name__" → mb x = bootBuiltins x) (noLim : s₁.heap.NoLimit) (hg : s₁.gens = #[])
    (ha : s₁.heap.get? a = some { cls := .type "list", data := .seq vs.toArray }) (hi : IntsAre vs ns) (hl : ns.length ≤ 63)
    (F : ∀ base : Heap, Mod K mg base → TxAll P w K mg base fa) :
    Call (model P w) callerA (.call (.ref fa) ⟨[.ref a], []⟩) (fun r s' => r = .ok (.ret (.bool true)) ∧ OldK s₁.heap s'.heap ∧ s'.os = s₁.os ∧ AllBare s'.gens) s₁ := by
  have valsN := L2.vals_ints hi
  have lenN := hi.length
  have core : ∀ H : Hp, (∀ H', Cf.Same H H' → SqL K H' a (ns.map V.int)) → HOk P w H s₁.heap → (∀ b u, H b = some u → b = a ∧ ∃ xs, u = .frz { cls := .type "list", data := .seq vs.toArray } (.lst xs)) → (H a ≠ none → K.lookup a = none) →
      Call (model P w) callerA (.call (.ref fa) ⟨[.ref a], []⟩) (fun r s' => r = .ok (.ret (.bool true)) ∧ OldK s₁.heap s'.heap ∧ s'.os = s₁.os ∧ AllBare s'.gens) s₁ := by
    intro H hS okStart onlyA notK
    have inBase : ∀ {b : Addr} {o : Obj}, s₁.heap.get? b = some o → H b = none → (hidT s₁.heap H).get? b = some o := fun eq nn => hidT_get eq nn
    have dictFree : ∀ {b : Addr} {o : Obj} {es : Array DictEntry} {ep : Nat}, s₁.heap.get? b = some o → o.data = .dict es ep → H b = none := fun {b o es ep} e d => by
      cases q : H b with
      | none => rfl
      | some u =>
        obtain ⟨e', _⟩ := onlyA b u q
        subst e'
        rw [ha] at e; cases e
        exact absurd (show Data.seq vs.toArray _ = Data.dict es ep from d) (fun dd => by cases dd)
    have nsBase : ∀ {b : Addr} {m : Str → Option Value}, s₁.heap.Ns b m → (hidT s₁.heap H).Ns b m := fun {b m} ⟨o, es, ep, e, d, r⟩ => ⟨o, es, ep, inBase e (dictFree e d), d, r⟩
    have kBase : K.In (hidT s₁.heap H) := fun b o e => inBase (inK b o e) (by
      cases q : H b with
      | none => rfl
      | some u =>
        obtain ⟨e', _⟩ := onlyA b u q
        subst e'
        rw [notK (by rw [q]; simp)] at e; cases e)
    have modB : Mod K mg (hidT s₁.heap H) := ⟨kBase, nsBase nsM, ⟨mb, nsBase hb, bltAt⟩, let ⟨mc, h1, h2⟩ := noLim; ⟨mc, nsBase h1, h2⟩⟩
    have e0 : Env0 P w K mg (hidT s₁.heap H) callerA [] s₁ H := ⟨rfl, modB, fun b o e => of_hidT e, Nat.le_of_eq (hidT_size _ _), trivial, fun b hb => absurd (show b ∈ ([] : List Addr) from hb) (by simp), okStart, .of_eq hg⟩
    obtain ⟨C, X, Y, kV2, doc2, pm2, cd2, ct2, oc2, an2, od2, osl2, lk, hcd, hbd⟩ := F _ modB
    refine call_imp (lw_call (a := a) (ns := ns) X Y facts lk hcd hbd room40 e0 (fun b hb => absurd (show b ∈ ([] : List Addr) from hb) (by simp)) hS (by omega)) fun r s' hq => ?_
    obtain ⟨rfl, os, bare, kept, H', sm, okEnd⟩ := hq
    refine ⟨rfl, OldK.of_keep fun b ob e => ?_, os, bare⟩
    cases q : H b with
    | none => exact kept b ob (inBase e q)
    | some u =>
      obtain ⟨rfl, xs, rfl⟩ := onlyA b u q
      obtain ⟨e1, _⟩ := okStart b _ q
      obtain ⟨e2, _⟩ := okEnd b _ (sm _ _ q)
      rw [e] at e1; cases e1
      exact e2
  cases hk : K.lookup a with
  | some o =>
    have e := inK a o hk
    rw [ha] at e
    cases e
    refine core (fun _ => none) (fun H' _ => .inr ⟨_, vs.toArray, _, hk, rfl, rfl, rfl, by rw [List.size_toArray, lenN]; exact Nat.le_trans hl (by decide), by simpa using valsN⟩) (fun b u z => by have z' : (none : Option HO) = some u := z; cases z') (fun b u z => by have z' : (none : Option HO) = some u := z; cases z') fun z => absurd rfl z
  | none =>
    refine core (fun b => if b = a then some (.frz { cls := .type "list", data := .seq vs.toArray } (.lst (ns.map V.int))) else none) (fun H' sm => .inl (.inr ⟨{ cls := .type "list", data := .seq vs.toArray }, sm a _ (if_pos rfl)⟩)) (fun b u z => ?_) (fun b u z => ?_) fun _ => hk
    · by_cases hb : b = a
      · have zp := (if_pos hb).symm.trans z
        cases zp
        subst hb
        exact ⟨ha, by rw [List.length_map]; exact Nat.le_trans hl (by decide), vs, _, valsN, ha⟩
      · have zn := (if_neg hb).symm.trans z
        cases zn
    · by_cases hb : b = a
      · have zp := (if_pos hb).symm.trans z
        cases zp
        exact ⟨hb, _, rfl⟩
      · have zn := (if_neg hb).symm.trans z
        cases zn
theorem walkC {l : OpenLaw} {q : Program} {loose : List Str} {XP : (Str → Option Value) → Heap → Prop} {YP : World → Heap → Prop} {d : DefRec} {K : Params → PySem.W.Frag}
    (hn : l.most = some 63) (hdf : d.params.defaults = []) (keepsK : ∀ (w : World) (h : Heap), YP w h → (K w.params).In h)
    (F : ∀ (w : World) (mg : Str → Option Value) (fa : Addr) (h : Heap), (K w.params).In h → h.Ns mainGlobals mg → mg d.name = some (.ref fa) → ∀ base : Heap, Mod (K w.params) mg base → TxAll l.prog w (K w.params) mg base fa) :
    Cf.WalkX q loose XP YP l.row.toRowW d [] := by
  intro w s₀ s₁ mg mb G Y fa o pm cd doc dV kV _ _ _ hD hmg hg args vals as hpre _ _ hwl _
  obtain ⟨a, vs, ns, rfl, rfl, hobj, hints, hlen⟩ := Att.script_of hn hpre hwl
  have inK := keepsK w _ Y
  refine call_imp (law_callC inK G.T.g G.T.b G.T.builtins G.T.nolimit hg hobj hints hlen (F w mg fa _ inK G.T.g hmg)) fun r s' hq => ?_
  obtain ⟨rfl, k2, k3, k4⟩ := hq
  exact ⟨.bool true, rfl, .inl ⟨.bool true, .bool true, [], rfl, fun _ => rfl, .bool true, Att.post_true l _, fun _ => ⟨List.Pairwise.nil, fun _ hm => (nomatch hm)⟩⟩, k2, k3, k4⟩
end Pd
end

section
set_option linter.all false
set_option maxRecDepth 100000
set_option maxHeartbeats 4000000
/-! The text's facts, and the join of all promises. Printed by gen10.py. -/
namespace Pd
open PySem PySem.W PySem.Calls PyProof.Rows L2 SlX Cf
/-- a def of the text, at f -/
abbrev FunIs (K : PySem.W.Frag) (f : Addr) (x qual : Str) (st : Stmt) : Prop := ∃ (oc kV doc pm cdv ct : Value) (od an : Option Addr) (osl : Array (Option Value)),
  K.lookup f = some ⟨oc, od, .func (PySem.W.fnOf x qual (L2.defArgs st) (L2.defBody st) (L2.defScope st) .none kV doc pm an cdv ct), osl⟩ ∧ PySem.W.codeIn K cdv qual = true ∧ PySem.W.keepIn K (.ref f) = true
abbrev DefIs (K : PySem.W.Frag) (x : Str) (st : Stmt) : Prop := ∃ f, PySem.W.nsIn K mainGlobals x = some (some (.ref f)) ∧ FunIs K f x x st
abbrev BindsF (x qual : Str) (st : Stmt) (ps : List Str) : Prop := ∀ (kV doc pm : Value) (an : Option Addr) (cdv ct : Value) (us : List Value), us.length = ps.length → bindArgs (PySem.W.fnOf x qual (L2.defArgs st) (L2.defBody st) (L2.defScope st) .none kV doc pm an cdv ct) ⟨us, []⟩ = pure (ps.zip us)
theorem dfn_of {K : PySem.W.Frag} {h : Heap} {mg : Str → Option Value} {x : Str} {st : Stmt} {ps : List Str} (X : K.In h) (G : h.Ns mainGlobals mg) (hd : DefIs K x st) (hb : BindsF x x st ps) : Dfn K mg x st ps := by
  obtain ⟨f, a, oc, kV, doc, pm, cdv, ct, od, an, osl, l, c, k⟩ := hd
  have F := fun_mk (st := st) l c k
  exact ⟨f, _, F, PySem.W.mg_of X G a, F.binds hb⟩
theorem fun_of {K : PySem.W.Frag} {f : Addr} {x qual : Str} {st : Stmt} {ps : List Str} (hd : FunIs K f x qual st) (hb : BindsF x qual st ps) : ∃ fd, Fun K x qual st f fd ∧ L2.Binds K fd ps [] := by
  obtain ⟨oc, kV, doc, pm, cdv, ct, od, an, osl, l, c, k⟩ := hd
  have F := fun_mk (st := st) l c k
  exact ⟨_, F, F.binds hb⟩
theorem kit_self (K : PySem.W.Frag) (C : Addr) : PySem.W.kitOne K (.ref C) (.ref C) = some true := if_pos (by simp)
/-- the descriptor of a slot -/
abbrev SlIs (K : PySem.W.Frag) (C : Addr) (f : Str) (i : Nat) : Prop := ∃ p, PySem.W.findIn K (.ref C) f = some (some (.ref p)) ∧ PySem.W.specialIn K (.ref p) "__get__" = some (some (.builtin "member_descriptor.__get__")) ∧ PySem.W.takesIn K (.ref p) = some true ∧
  PySem.W.typeIn K (.ref p) = some (.type "member_descriptor") ∧ PySem.W.slotIn K p C = some i
theorem slot_of {K : PySem.W.Frag} {C : Addr} {f : Str} {i : Nat} (h : SlIs K C f i) (hi : i < 1000) : ∃ p, Slot1 K C f p i := let ⟨p, h1, h2, h3, h4, h5⟩ := h; ⟨p, h1, h2, h3, h4, h5, hi⟩
/-- the class Order -/
structure OrdIs (K : PySem.W.Frag) (C : Addr) : Prop where
  pg : PySem.W.plainGet K C Str.empty = true
  ic : PySem.W.isClsIn K C = true
  po : PySem.W.plainOver K C = true
  sa : PySem.W.findIn K (.ref C) "__setattr__" = some (some (.builtin "object.__setattr__"))
  ca : PySem.W.findIn K (.ref C) "__class__" = some (some (.builtin "object.__class__"))
  cn : PySem.W.specialIn K (.builtin "object.__class__") "__get__" = some (some (.builtin "getset_descriptor.__get__"))
  ct : PySem.W.takesIn K (.builtin "object.__class__") = some true
  cm : PySem.W.mroIn K C (.type "object") = some true
  makes : PySem.W.makesIn K C = true
  kp : PySem.W.keepIn K (.ref C) = true
  s0 : SlIs K C "own_is_whole" 0
  s1 : SlIs K C "own_lower" 1
  s2 : SlIs K C "own_lower_at" 2
  s3 : SlIs K C "own_names" 3
  s4 : SlIs K C "own_needless" 4
  s5 : SlIs K C "own_places" 5
  s6 : SlIs K C "own_text" 6
  s7 : SlIs K C "own_upper" 7
  s8 : SlIs K C "own_upper_at" 8
  init : ∃ f, PySem.W.findIn K (.ref C) "__init__" = some (some (.ref f)) ∧ PySem.W.isFn K (.ref f) = true ∧ FunIs K f "__init__" "Order.__init__" sOI
  len : ∃ g, PySem.W.findIn K (.ref C) "__len__" = some (some (.ref g)) ∧ PySem.W.isFn K (.ref g) = true ∧ FunIs K g "__len__" "Order.__len__" sLn
  places : ∃ pp g, PySem.W.findIn K (.ref C) "places" = some (some (.ref pp)) ∧ PySem.W.specialIn K (.ref pp) "__get__" = some (some (.builtin "property.__get__")) ∧ PySem.W.takesIn K (.ref pp) = some true ∧ (∃ rest, PySem.W.recIn K pp "property" = some (.ref g :: rest)) ∧ FunIs K g "places" "Order.places" sPl
  read : ∃ mc p g, PySem.W.readsIn K C mc = true ∧ PySem.W.specialIn K (.ref C) "__getattribute__" = some (some (.builtin "type.__getattribute__")) ∧ PySem.W.findCls K (.ref C) mc "read" = some (.get (.builtin "classmethod.__get__") (.ref p) .none (.ref C)) ∧
    (∃ rest, PySem.W.recIn K p "classmethod" = some (.ref g :: rest)) ∧ PySem.W.fnIn K g = true ∧ FunIs K g "read" "Order.read" sOR
/-- the text -/
structure TextIs (K : PySem.W.Frag) : Prop where
  order : ∃ C, PySem.W.nsIn K mainGlobals "Order" = some (some (.ref C)) ∧ OrdIs K C
  walkedC : ∃ (aW : Addr) (o : Obj) (t1 t2 : Tok) (n : Nat), PySem.W.nsIn K mainGlobals "WALKED" = some (some (.ref aW)) ∧ K.lookup aW = some o ∧ o.cls = .type "tuple" ∧ o.data = .seq #[.str (kindS false) t1, .str (kindS true) t2] n
  great : ∃ t, PySem.W.nsIn K mainGlobals "GREAT" = some (some (.int great t))
  maxLetters : ∃ t, PySem.W.nsIn K mainGlobals "MAX_LETTERS" = some (some (.int 8 t))
  letters : ∃ t, PySem.W.nsIn K mainGlobals "LETTERS" = some (some (.str letters t))
  manyNames : ∃ t, PySem.W.nsIn K mainGlobals "MANY_NAMES" = some (some (.int 702 t))
  maxNames : ∃ t, PySem.W.nsIn K mainGlobals "MAX_NAMES" = some (some (.int 40 t))
  maxListed : ∃ t, PySem.W.nsIn K mainGlobals "MAX_LISTED" = some (some (.int 7 t))
  maxWalked : ∃ t, PySem.W.nsIn K mainGlobals "MAX_WALKED" = some (some (.int 7 t))
  f_isinstance : PySem.W.nsIn K mainGlobals "isinstance" = some none
  f_int : PySem.W.nsIn K mainGlobals "int" = some none
  f_bool : PySem.W.nsIn K mainGlobals "bool" = some none
  f_str : PySem.W.nsIn K mainGlobals "str" = some none
  f_tuple : PySem.W.nsIn K mainGlobals "tuple" = some none
  f_len : PySem.W.nsIn K mainGlobals "len" = some none
  f_all : PySem.W.nsIn K mainGlobals "all" = some none
  f_max : PySem.W.nsIn K mainGlobals "max" = some none
  f_min : PySem.W.nsIn K mainGlobals "min" = some none
  f_abs : PySem.W.nsIn K mainGlobals "abs" = some none
  f_sorted : PySem.W.nsIn K mainGlobals "sorted" = some none
  f_list : PySem.W.nsIn K mainGlobals "list" = some none
  f_range : PySem.W.nsIn K mainGlobals "range" = some none
  f_zip : PySem.W.nsIn K mainGlobals "zip" = some none
  f_enumerate : PySem.W.nsIn K mainGlobals "enumerate" = some none
  f_divmod : PySem.W.nsIn K mainGlobals "divmod" = some none
  f_set : PySem.W.nsIn K mainGlobals "set" = some none
  d_is_whole : DefIs K "is_whole" sIW
  d_is_integer : DefIs K "is_integer" sII
  d_require_count : DefIs K "require_count" sRC
  d_nth_name : DefIs K "nth_name" sNN
  d_is_name : DefIs K "is_name" sNa
  d_block_ends : DefIs K "block_ends" sBE
  d_is_row : DefIs K "is_row" sRw
  d_row_in : DefIs K "row_in" sRI
  d_needless_in : DefIs K "needless_in" sNI
  d_require_whole : DefIs K "require_whole" sWh
  d_order_of_places : DefIs K "order_of_places" sOP
  d_next_places : DefIs K "next_places" sNX
  d_are_places : DefIs K "are_places" sAP
  d_require_few : DefIs K "require_few" sFw
  d_walked : DefIs K "walked" sWK
  d_class_of : DefIs K "class_of" sCO
  d_require_two : DefIs K "require_two" sTw
  d_walk_between : DefIs K "walk_between" sWB
  d_are_joined : DefIs K "are_joined" sAJ
  d_is_closed : DefIs K "is_closed" sIC
  d__law_dice : DefIs K "_law_dice" sLD
  d__law_roll : DefIs K "_law_roll" sLR
  d__law_pick : DefIs K "_law_pick" sLP
  d__law_mixed : DefIs K "_law_mixed" sLM
  d__law_is_whole : DefIs K "_law_is_whole" sLW
  d__law_moved_places : DefIs K "_law_moved_places" sMP
  d__law_is_kept : DefIs K "_law_is_kept" sKP
  d__law_other : DefIs K "_law_other" sLO
  d_places_from : DefIs K "places_from" Pf.sPF
  d_each_order : DefIs K "each_order" Pf.sEO
  d__law_right : DefIs K "_law_right" sRI2
  d_law : DefIs K "law" sLL
section
variable {K : PySem.W.Frag} {f C p : Addr} {x qual fs : Str} {st : Stmt} {oc kV doc pm cdv ct : Value} {od an : Option Addr} {osl : Array (Option Value)} {i : Nat}
theorem funIs_mk (l : K.lookup f = some ⟨oc, od, .func (PySem.W.fnOf x qual (L2.defArgs st) (L2.defBody st) (L2.defScope st) .none kV doc pm an cdv ct), osl⟩) (c : PySem.W.codeIn K cdv qual = true) (k : PySem.W.keepIn K (.ref f) = true) : FunIs K f x qual st := ⟨oc, kV, doc, pm, cdv, ct, od, an, osl, l, c, k⟩
theorem defIs_mk (a : PySem.W.nsIn K mainGlobals x = some (some (.ref f))) (l : K.lookup f = some ⟨oc, od, .func (PySem.W.fnOf x x (L2.defArgs st) (L2.defBody st) (L2.defScope st) .none kV doc pm an cdv ct), osl⟩) (c : PySem.W.codeIn K cdv x = true) (k : PySem.W.keepIn K (.ref f) = true) : DefIs K x st := ⟨f, a, funIs_mk l c k⟩
theorem slIs_mk (a : PySem.W.findIn K (.ref C) fs = some (some (.ref p))) (b : PySem.W.specialIn K (.ref p) "__get__" = some (some (.builtin "member_descriptor.__get__"))) (c : PySem.W.takesIn K (.ref p) = some true) (d : PySem.W.typeIn K (.ref p) = some (.type "member_descriptor")) (e : PySem.W.slotIn K p C = some i) : SlIs K C fs i := ⟨p, a, b, c, d, e⟩
theorem ex_mk {α : Type} {Q : α → Prop} {t : α} (a : Q t) : ∃ t, Q t := ⟨t, a⟩
theorem order_mk (a : PySem.W.nsIn K mainGlobals "Order" = some (some (.ref C))) (r : OrdIs K C) : ∃ C, PySem.W.nsIn K mainGlobals "Order" = some (some (.ref C)) ∧ OrdIs K C := ⟨C, a, r⟩
theorem meth_mk (a : PySem.W.findIn K (.ref C) fs = some (some (.ref f))) (b : PySem.W.isFn K (.ref f) = true) (r : FunIs K f x qual st) : ∃ f, PySem.W.findIn K (.ref C) fs = some (some (.ref f)) ∧ PySem.W.isFn K (.ref f) = true ∧ FunIs K f x qual st := ⟨f, a, b, r⟩
theorem prop_mk {rest : List Value} (a : PySem.W.findIn K (.ref C) "places" = some (some (.ref p))) (b : PySem.W.specialIn K (.ref p) "__get__" = some (some (.builtin "property.__get__"))) (c : PySem.W.takesIn K (.ref p) = some true) (d : PySem.W.recIn K p "property" = some (.ref f :: rest)) (r : FunIs K f x qual st) :
    ∃ pp g, PySem.W.findIn K (.ref C) "places" = some (some (.ref pp)) ∧ PySem.W.specialIn K (.ref pp) "__get__" = some (some (.builtin "property.__get__")) ∧ PySem.W.takesIn K (.ref pp) = some true ∧ (∃ rest, PySem.W.recIn K pp "property" = some (.ref g :: rest)) ∧ FunIs K g x qual st := ⟨p, f, a, b, c, ⟨rest, d⟩, r⟩
theorem read_mk {rest : List Value} (a : PySem.W.readsIn K C (.type "type") = true) (b : PySem.W.specialIn K (.ref C) "__getattribute__" = some (some (.builtin "type.__getattribute__"))) (c : PySem.W.findCls K (.ref C) (.type "type") "read" = some (.get (.builtin "classmethod.__get__") (.ref p) .none (.ref C))) (d : PySem.W.recIn K p "classmethod" = some (.ref f :: rest)) (e : PySem.W.fnIn K f = true) (r : FunIs K f x qual st) :
    ∃ mc p g, PySem.W.readsIn K C mc = true ∧ PySem.W.specialIn K (.ref C) "__getattribute__" = some (some (.builtin "type.__getattribute__")) ∧ PySem.W.findCls K (.ref C) mc "read" = some (.get (.builtin "classmethod.__get__") (.ref p) .none (.ref C)) ∧ (∃ rest, PySem.W.recIn K p "classmethod" = some (.ref g :: rest)) ∧ PySem.W.fnIn K g = true ∧ FunIs K g x qual st := ⟨.type "type", p, f, a, b, c, ⟨rest, d⟩, e, r⟩
theorem walk_mk {o : Obj} {t1 t2 : Tok} {n : Nat} (a : PySem.W.nsIn K mainGlobals "WALKED" = some (some (.ref f))) (b : K.lookup f = some o) (c : o.cls = .type "tuple") (d : o.data = .seq #[.str (kindS false) t1, .str (kindS true) t2] n) :
    ∃ (aW : Addr) (o : Obj) (t1 t2 : Tok) (n : Nat), PySem.W.nsIn K mainGlobals "WALKED" = some (some (.ref aW)) ∧ K.lookup aW = some o ∧ o.cls = .type "tuple" ∧ o.data = .seq #[.str (kindS false) t1, .str (kindS true) t2] n := ⟨f, o, t1, t2, n, a, b, c, d⟩
end
section
variable {P : Program} {w : World} {K : PySem.W.Frag} {mg : Str → Option Value} {base h : Heap} {fa : Addr}
theorem tx_all (X : K.In h) (G : h.Ns mainGlobals mg) (hfa : mg "law" = some (.ref fa)) (t : TextIs K) (base : Heap) (hM : Mod K mg base) : TxAll P w K mg base fa := by
  have B : TB mg := ⟨PySem.W.mg_none_of X G t.f_isinstance, PySem.W.mg_none_of X G t.f_int, PySem.W.mg_none_of X G t.f_bool, PySem.W.mg_none_of X G t.f_str, PySem.W.mg_none_of X G t.f_tuple, PySem.W.mg_none_of X G t.f_len, PySem.W.mg_none_of X G t.f_all, PySem.W.mg_none_of X G t.f_max, PySem.W.mg_none_of X G t.f_min, PySem.W.mg_none_of X G t.f_abs, PySem.W.mg_none_of X G t.f_sorted, PySem.W.mg_none_of X G t.f_list, PySem.W.mg_none_of X G t.f_range, PySem.W.mg_none_of X G t.f_zip, PySem.W.mg_none_of X G t.f_enumerate, PySem.W.mg_none_of X G t.f_divmod, PySem.W.mg_none_of X G t.f_set⟩
  obtain ⟨C, nC, O⟩ := t.order
  have gC : mg "Order" = some (.ref C) := PySem.W.mg_of X G nC
  have T : OrdT K mg C := ⟨⟨O.pg, O.ic, O.po, O.sa⟩, slot_of O.s0 (by decide), slot_of O.s1 (by decide), slot_of O.s2 (by decide), slot_of O.s3 (by decide), slot_of O.s4 (by decide), slot_of O.s5 (by decide), slot_of O.s6 (by decide), slot_of O.s7 (by decide), slot_of O.s8 (by decide), ⟨O.ca, O.cn, O.ct, O.cm⟩, kit_self K C, gC⟩
  obtain ⟨aW, oW, t1, t2, nW, gW, lW, cW, dW⟩ := t.walkedC
  have hW : ∃ aW, mg "WALKED" = some (.ref aW) ∧ KWalk K aW := ⟨aW, PySem.W.mg_of X G gW, fun H => .inr ⟨oW, _, nW, lW, cW, dW, (by show 2 ≤ sizeLine; decide), .cons ⟨t1, rfl⟩ (.cons ⟨t2, rfl⟩ .nil)⟩⟩
  have c8 : ∃ t, mg "MAX_LETTERS" = some (.int 8 t) := let ⟨k, e⟩ := t.maxLetters; ⟨k, PySem.W.mg_of X G e⟩
  have cG : ∃ t, mg "GREAT" = some (.int great t) := let ⟨k, e⟩ := t.great; ⟨k, PySem.W.mg_of X G e⟩
  have cL : ∃ t, mg "LETTERS" = some (.str letters t) := let ⟨k, e⟩ := t.letters; ⟨k, PySem.W.mg_of X G e⟩
  have cN : ∃ t, mg "MANY_NAMES" = some (.int 702 t) := let ⟨k, e⟩ := t.manyNames; ⟨k, PySem.W.mg_of X G e⟩
  have cM : ∃ t, mg "MAX_NAMES" = some (.int 40 t) := let ⟨k, e⟩ := t.maxNames; ⟨k, PySem.W.mg_of X G e⟩
  have cI : ∃ t, mg "MAX_LISTED" = some (.int 7 t) := let ⟨k, e⟩ := t.maxListed; ⟨k, PySem.W.mg_of X G e⟩
  have cK : ∃ t, mg "MAX_WALKED" = some (.int 7 t) := let ⟨k, e⟩ := t.maxWalked; ⟨k, PySem.W.mg_of X G e⟩
  have D_is_whole : Dfn K mg "is_whole" sIW ["value"] := dfn_of X G t.d_is_whole (fun _ _ _ _ _ _ us hl => match us, hl with | [_], _ => rfl)
  have D_is_integer : Dfn K mg "is_integer" sII ["value"] := dfn_of X G t.d_is_integer (fun _ _ _ _ _ _ us hl => match us, hl with | [_], _ => rfl)
  have D_require_count : Dfn K mg "require_count" sRC ["value", "least", "most"] := dfn_of X G t.d_require_count (fun _ _ _ _ _ _ us hl => match us, hl with | [_, _, _], _ => rfl)
  have D_nth_name : Dfn K mg "nth_name" sNN ["index"] := dfn_of X G t.d_nth_name (fun _ _ _ _ _ _ us hl => match us, hl with | [_], _ => rfl)
  have D_is_name : Dfn K mg "is_name" sNa ["value"] := dfn_of X G t.d_is_name (fun _ _ _ _ _ _ us hl => match us, hl with | [_], _ => rfl)
  have D_block_ends : Dfn K mg "block_ends" sBE ["places"] := dfn_of X G t.d_block_ends (fun _ _ _ _ _ _ us hl => match us, hl with | [_], _ => rfl)
  have D_is_row : Dfn K mg "is_row" sRw ["value"] := dfn_of X G t.d_is_row (fun _ _ _ _ _ _ us hl => match us, hl with | [_], _ => rfl)
  have D_row_in : Dfn K mg "row_in" sRI ["text"] := dfn_of X G t.d_row_in (fun _ _ _ _ _ _ us hl => match us, hl with | [_], _ => rfl)
  have D_needless_in : Dfn K mg "needless_in" sNI ["upper", "places"] := dfn_of X G t.d_needless_in (fun _ _ _ _ _ _ us hl => match us, hl with | [_, _], _ => rfl)
  have D_require_whole : Dfn K mg "require_whole" sWh ["value"] := dfn_of X G t.d_require_whole (fun _ _ _ _ _ _ us hl => match us, hl with | [_], _ => rfl)
  have D_order_of_places : Dfn K mg "order_of_places" sOP ["places"] := dfn_of X G t.d_order_of_places (fun _ _ _ _ _ _ us hl => match us, hl with | [_], _ => rfl)
  have D_next_places : Dfn K mg "next_places" sNX ["places", "kind"] := dfn_of X G t.d_next_places (fun _ _ _ _ _ _ us hl => match us, hl with | [_, _], _ => rfl)
  have D_are_places : Dfn K mg "are_places" sAP ["value", "most"] := dfn_of X G t.d_are_places (fun _ _ _ _ _ _ us hl => match us, hl with | [_, _], _ => rfl)
  have D_require_few : Dfn K mg "require_few" sFw ["order"] := dfn_of X G t.d_require_few (fun _ _ _ _ _ _ us hl => match us, hl with | [_], _ => rfl)
  have D_walked : Dfn K mg "walked" sWK ["start", "goal"] := dfn_of X G t.d_walked (fun _ _ _ _ _ _ us hl => match us, hl with | [_, _], _ => rfl)
  have D_class_of : Dfn K mg "class_of" sCO ["order"] := dfn_of X G t.d_class_of (fun _ _ _ _ _ _ us hl => match us, hl with | [_], _ => rfl)
  have D_require_two : Dfn K mg "require_two" sTw ["one", "other"] := dfn_of X G t.d_require_two (fun _ _ _ _ _ _ us hl => match us, hl with | [_, _], _ => rfl)
  have D_walk_between : Dfn K mg "walk_between" sWB ["one", "other"] := dfn_of X G t.d_walk_between (fun _ _ _ _ _ _ us hl => match us, hl with | [_, _], _ => rfl)
  have D_are_joined : Dfn K mg "are_joined" sAJ ["one", "other"] := dfn_of X G t.d_are_joined (fun _ _ _ _ _ _ us hl => match us, hl with | [_, _], _ => rfl)
  have D_is_closed : Dfn K mg "is_closed" sIC ["many", "value"] := dfn_of X G t.d_is_closed (fun _ _ _ _ _ _ us hl => match us, hl with | [_, _], _ => rfl)
  have D__law_dice : Dfn K mg "_law_dice" sLD ["_law_script", "_law_spot"] := dfn_of X G t.d__law_dice (fun _ _ _ _ _ _ us hl => match us, hl with | [_, _], _ => rfl)
  have D__law_roll : Dfn K mg "_law_roll" sLR ["_law_dice_here", "_law_total"] := dfn_of X G t.d__law_roll (fun _ _ _ _ _ _ us hl => match us, hl with | [_, _], _ => rfl)
  have D__law_pick : Dfn K mg "_law_pick" sLP ["_law_dice_here", "_law_items"] := dfn_of X G t.d__law_pick (fun _ _ _ _ _ _ us hl => match us, hl with | [_, _], _ => rfl)
  have D__law_mixed : Dfn K mg "_law_mixed" sLM ["_law_dice_here", "_law_items"] := dfn_of X G t.d__law_mixed (fun _ _ _ _ _ _ us hl => match us, hl with | [_, _], _ => rfl)
  have D__law_is_whole : Dfn K mg "_law_is_whole" sLW ["_law_upper", "_law_lower"] := dfn_of X G t.d__law_is_whole (fun _ _ _ _ _ _ us hl => match us, hl with | [_, _], _ => rfl)
  have D__law_moved_places : Dfn K mg "_law_moved_places" sMP ["_law_places", "_law_kind"] := dfn_of X G t.d__law_moved_places (fun _ _ _ _ _ _ us hl => match us, hl with | [_, _], _ => rfl)
  have D__law_is_kept : Dfn K mg "_law_is_kept" sKP ["_law_times", "_law_value"] := dfn_of X G t.d__law_is_kept (fun _ _ _ _ _ _ us hl => match us, hl with | [_, _], _ => rfl)
  have D__law_other : Dfn K mg "_law_other" sLO ["_law_dice_here", "_law_times", "_law_value"] := dfn_of X G t.d__law_other (fun _ _ _ _ _ _ us hl => match us, hl with | [_, _, _], _ => rfl)
  obtain ⟨fI, aI, bI, FI⟩ := O.init
  obtain ⟨fdI, FI, BI_⟩ := fun_of (ps := ["self", "upper", "lower"]) FI (fun _ _ _ _ _ _ us hl => match us, hl with | [_, _, _], _ => rfl)
  obtain ⟨gL, aL, bL, FL⟩ := O.len
  obtain ⟨fdL, FL, BL⟩ := fun_of (ps := ["self"]) FL (fun _ _ _ _ _ _ us hl => match us, hl with | [_], _ => rfl)
  obtain ⟨pp, gP, aP, bP, cP, rP, FP⟩ := O.places
  obtain ⟨fdP, FP, BP⟩ := fun_of (ps := ["self"]) FP (fun _ _ _ _ _ _ us hl => match us, hl with | [_], _ => rfl)
  obtain ⟨mc, pR, gR, aR, bR, cR, rR, fR, FR⟩ := O.read
  obtain ⟨fdR, FR, BR_⟩ := fun_of (ps := ["cls", "upper", "lower"]) FR (fun _ _ _ _ _ _ us hl => match us, hl with | [_, _, _], _ => rfl)
  -- the promises
  have iw := ok_is_whole (P := P) (w := w) (base := base) B D_is_whole
  have ii := ok_is_integer (P := P) (w := w) (base := base) iw cG D_is_integer
  have rc := ok_require_count (P := P) (w := w) (base := base) ii D_require_count
  have na := ok_is_name (P := P) (w := w) (base := base) B c8 cL D_is_name
  have nn := ok_nth_name (P := P) (w := w) (base := base) B rc cN cL D_nth_name
  have be := ok_block_ends (P := P) (w := w) (base := base) B D_block_ends
  have rw_ := ok_is_row (P := P) (w := w) (base := base) B na cM D_is_row
  have ri := ok_row_in (P := P) (w := w) (base := base) B rw_ D_row_in
  have ni := ok_needless_in (P := P) (w := w) (base := base) B D_needless_in
  have oi := ok_ord_init (P := P) (w := w) (base := base) B T rw_ be ni FI
  have M : OrdM P w K mg base C := ⟨fI, fdI, ⟨O.makes, aI, bI, O.kp⟩, oi, BI_⟩
  have op := ok_order_of_places (P := P) (w := w) (base := base) B T M nn D_order_of_places
  have FF : OrdF P w K mg base C := ⟨⟨gL, fdL, aL, bL, ok_ord_len B T FL, BL⟩, ⟨pp, gP, fdP, aP, bP, cP, rP, ok_ord_places T FP, BP⟩⟩
  have wh := ok_require_whole (P := P) (w := w) (base := base) B T D_require_whole
  have fw := ok_require_few (P := P) (w := w) (base := base) B T FF cK D_require_few
  have tw := ok_require_two (P := P) (w := w) (base := base) wh fw D_require_two
  have nx := ok_next_places (P := P) (w := w) (base := base) B D_next_places
  have ap := ok_are_places (P := P) (w := w) (base := base) B iw D_are_places
  have wk := ok_walked (P := P) (w := w) (base := base) B nx hW D_walked
  have co := ok_class_of (P := P) (w := w) (base := base) B T FF wh fw wk D_class_of
  have wb := ok_walk_between (P := P) (w := w) (base := base) B T FF tw wk D_walk_between
  have aj := ok_are_joined (P := P) (w := w) (base := base) wb D_are_joined
  have ic := ok_is_closed (P := P) (w := w) (base := base) B rc ap nx cK hW D_is_closed
  have ld := ok_law_dice (P := P) (w := w) (base := base) B D__law_dice
  have lr := ok_law_roll (P := P) (w := w) (K := K) (base := base) B D__law_roll
  have lp := ok_law_pick (P := P) (w := w) (base := base) B lr D__law_pick
  have lm := ok_law_mixed (P := P) (w := w) (base := base) B lr D__law_mixed
  have lw := ok_law_whole (P := P) (w := w) (base := base) B D__law_is_whole
  have mp := ok_law_moved (P := P) (w := w) (base := base) B D__law_moved_places
  have kp := ok_law_kept (P := P) (w := w) (base := base) B lw mp D__law_is_kept
  have lo := ok_law_other (P := P) (w := w) (base := base) B lr lm D__law_other
  have rd := ok_ord_read (P := P) (w := w) (base := base) B T M ri FR
  have R : TxR P w K mg base C := ⟨B, T, FF, lr, lp, co, ic, kp, lo, aj⟩
  obtain ⟨fP, nP, ocP, kVP, docP, pmP, cdP, ctP, odP, anP, oslP, lkP, cP', kP'⟩ := t.d_places_from
  obtain ⟨fE, nE, ocE, kVE, docE, pmE, cdE, ctE, odE, anE, oslE, lkE, cE', kE'⟩ := t.d_each_order
  obtain ⟨fR', nR, ocR, kVR, docR, pmR, cdR, ctR, odR, anR, oslR, lkR, cR', kR'⟩ := t.d__law_right
  obtain ⟨fl, nl, ocl, kVl, docl, pml, cdl, ctl, odl, anl, osll, lkl, cl', kl'⟩ := t.d_law
  have FPf := fun_mk (st := Pf.sPF) lkP cP' kP'
  have FEo := fun_mk (st := Pf.sEO) lkE cE' kE'
  have FRi := fun_mk (st := sRI2) lkR cR' kR'
  have Fll := fun_mk (st := sLL) lkl cl' kl'
  have e := hfa.symm.trans (PySem.W.mg_of X G nl)
  obtain rfl : fa = fl := by cases e; rfl
  refine ⟨C, ⟨R, ⟨fP, kVP, docP, pmP, cdP, ctP, ocP, anP, odP, oslP, ⟨lkP, cP', PySem.W.mg_of X G nP, kP', FPf.binds (ps := ["start", "left"]) (fun _ _ _ _ _ _ us hl => match us, hl with | [_, _], _ => rfl), B.enumerate, hM⟩⟩, ?_, ⟨fE, kVE, docE, pmE, cdE, ctE, ocE, anE, odE, oslE, ⟨lkE, cE', PySem.W.mg_of X G nE, kE', FEo.binds (ps := ["many"]) (fun _ _ _ _ _ _ us hl => match us, hl with | [_], _ => rfl)⟩⟩,
    ⟨fR', kVR, docR, pmR, cdR, ctR, ocR, anR, odR, oslR, lkR, cR', FRi.binds (ps := ["_law_dice_here"]) (fun _ _ _ _ _ _ us hl => match us, hl with | [_], _ => rfl), PySem.W.mg_of X G nR, kR'⟩⟩, ⟨B.max, B.min, ld, ⟨mc, pR, gR, fdR, ⟨aR, bR⟩, ⟨cR, rR, fR⟩, rd, BR_⟩⟩, kVl, docl, pml, cdl, ctl, ocl, anl, odl, osll, lkl, cl', Fll.binds (ps := ["_law_script"]) (fun _ _ _ _ _ _ us hl => match us, hl with | [_], _ => rfl)⟩
  obtain ⟨frc, fdrc, a1, a2, a3, a4⟩ := rc
  obtain ⟨fbe, fdbe, b1, b2, b3, b4⟩ := be
  obtain ⟨fop, fdop, c1, c2, c3, c4⟩ := op
  exact ⟨⟨frc, fdrc, 3, Nat.le_refl _, a1, a2, a3, a4⟩, ⟨fbe, fdbe, b1, b2, b3, b4⟩, ⟨fop, fdop, c1, c2, c3, c4⟩, cI, B.list, B.range, B.len⟩
end
end Pd
end

section
set_option Elab.async false
set_option maxRecDepth 100000
set_option maxHeartbeats 0
set_option maxErrors 100000
open PySem PySem.W PyProof.Rows
namespace Cg
theorem tst : PySem.Challenge.rw_pieceround_k52_whole_closed_sets_bar_wal.Holds := by
  w_on; o_law; k_head; (case hw => w_witness2)
  k_fill
  refine Pd.walkC (l := PySem.Challenge.rw_pieceround_k52_whole_closed_sets_bar_wal) rfl rfl (fun w h Y => PySem.W.kIn_of Y) ?F
  case F =>
    intro w mg fa h KX G hmg base hM
    refine Pd.tx_all KX G hmg ?t base hM
    case t =>
      constructor
      case order =>
        refine' Pd.order_mk ?a ?r
        (case a => k_is)
        case r =>
          constructor
          (case pg => k_is)
          (case ic => k_is)
          (case po => k_is)
          (case sa => k_is)
          (case ca => k_is)
          (case cn => k_is)
          (case ct => k_is)
          (case cm => k_is)
          (case makes => k_is)
          (case kp => k_is)
          (case s0 => (refine' Pd.slIs_mk ?a ?b ?c ?d ?e; (case a => k_is); (case b => k_is); (case c => k_is); (case d => k_is); (case e => k_is)))
          (case s1 => (refine' Pd.slIs_mk ?a ?b ?c ?d ?e; (case a => k_is); (case b => k_is); (case c => k_is); (case d => k_is); (case e => k_is)))
          (case s2 => (refine' Pd.slIs_mk ?a ?b ?c ?d ?e; (case a => k_is); (case b => k_is); (case c => k_is); (case d => k_is); (case e => k_is)))
          (case s3 => (refine' Pd.slIs_mk ?a ?b ?c ?d ?e; (case a => k_is); (case b => k_is); (case c => k_is); (case d => k_is); (case e => k_is)))
          (case s4 => (refine' Pd.slIs_mk ?a ?b ?c ?d ?e; (case a => k_is); (case b => k_is); (case c => k_is); (case d => k_is); (case e => k_is)))
          (case s5 => (refine' Pd.slIs_mk ?a ?b ?c ?d ?e; (case a => k_is); (case b => k_is); (case c => k_is); (case d => k_is); (case e => k_is)))
          (case s6 => (refine' Pd.slIs_mk ?a ?b ?c ?d ?e; (case a => k_is); (case b => k_is); (case c => k_is); (case d => k_is); (case e => k_is)))
          (case s7 => (refine' Pd.slIs_mk ?a ?b ?c ?d ?e; (case a => k_is); (case b => k_is); (case c => k_is); (case d => k_is); (case e => k_is)))
          (case s8 => (refine' Pd.slIs_mk ?a ?b ?c ?d ?e; (case a => k_is); (case b => k_is); (case c => k_is); (case d => k_is); (case e => k_is)))
          case init =>
            refine' Pd.meth_mk ?a ?b ?r
            (case a => k_is)
            (case b => k_is)
            (case r => (refine' Pd.funIs_mk ?l ?c ?k; (case l => k_is); (case c => k_is); (case k => k_is)))
          case len =>
            refine' Pd.meth_mk ?a ?b ?r
            (case a => k_is)
            (case b => k_is)
            (case r => (refine' Pd.funIs_mk ?l ?c ?k; (case l => k_is); (case c => k_is); (case k => k_is)))
          case places =>
            refine' Pd.prop_mk ?a ?b ?c ?d ?r
            (case a => k_is)
            (case b => k_is)
            (case c => k_is)
            (case d => k_is)
            (case r => (refine' Pd.funIs_mk ?l ?c ?k; (case l => k_is); (case c => k_is); (case k => k_is)))
          case read =>
            refine' Pd.read_mk ?a ?b ?c ?d ?f ?r
            (case a => k_is)
            (case b => k_is)
            (case c => k_is)
            (case d => k_is)
            (case f => k_is)
            (case r => (refine' Pd.funIs_mk ?l ?c ?k; (case l => k_is); (case c => k_is); (case k => k_is)))
      case walkedC =>
        refine' Pd.walk_mk ?a ?b ?c ?d
        (case a => k_is)
        (case b => k_is)
        (case c => rfl)
        (case d => rfl)
      (case great => (refine' Pd.ex_mk ?a; (case a => k_is)))
      (case maxLetters => (refine' Pd.ex_mk ?a; (case a => k_is)))
      (case letters => (refine' Pd.ex_mk ?a; (case a => k_is)))
      (case manyNames => (refine' Pd.ex_mk ?a; (case a => k_is)))
      (case maxNames => (refine' Pd.ex_mk ?a; (case a => k_is)))
      (case maxListed => (refine' Pd.ex_mk ?a; (case a => k_is)))
      (case maxWalked => (refine' Pd.ex_mk ?a; (case a => k_is)))
      (case f_isinstance => k_is)
      (case f_int => k_is)
      (case f_bool => k_is)
      (case f_str => k_is)
      (case f_tuple => k_is)
      (case f_len => k_is)
      (case f_all => k_is)
      (case f_max => k_is)
      (case f_min => k_is)
      (case f_abs => k_is)
      (case f_sorted => k_is)
      (case f_list => k_is)
      (case f_range => k_is)
      (case f_zip => k_is)
      (case f_enumerate => k_is)
      (case f_divmod => k_is)
      (case f_set => k_is)
      (case d_is_whole => (refine' Pd.defIs_mk ?a ?l ?c ?k; (case a => k_is); (case l => k_is); (case c => k_is); (case k => k_is)))
      (case d_is_integer => (refine' Pd.defIs_mk ?a ?l ?c ?k; (case a => k_is); (case l => k_is); (case c => k_is); (case k => k_is)))
      (case d_require_count => (refine' Pd.defIs_mk ?a ?l ?c ?k; (case a => k_is); (case l => k_is); (case c => k_is); (case k => k_is)))
      (case d_nth_name => (refine' Pd.defIs_mk ?a ?l ?c ?k; (case a => k_is); (case l => k_is); (case c => k_is); (case k => k_is)))
      (case d_is_name => (refine' Pd.defIs_mk ?a ?l ?c ?k; (case a => k_is); (case l => k_is); (case c => k_is); (case k => k_is)))
      (case d_block_ends => (refine' Pd.defIs_mk ?a ?l ?c ?k; (case a => k_is); (case l => k_is); (case c => k_is); (case k => k_is)))
      (case d_is_row => (refine' Pd.defIs_mk ?a ?l ?c ?k; (case a => k_is); (case l => k_is); (case c => k_is); (case k => k_is)))
      (case d_row_in => (refine' Pd.defIs_mk ?a ?l ?c ?k; (case a => k_is); (case l => k_is); (case c => k_is); (case k => k_is)))
      (case d_needless_in => (refine' Pd.defIs_mk ?a ?l ?c ?k; (case a => k_is); (case l => k_is); (case c => k_is); (case k => k_is)))
      (case d_require_whole => (refine' Pd.defIs_mk ?a ?l ?c ?k; (case a => k_is); (case l => k_is); (case c => k_is); (case k => k_is)))
      (case d_order_of_places => (refine' Pd.defIs_mk ?a ?l ?c ?k; (case a => k_is); (case l => k_is); (case c => k_is); (case k => k_is)))
      (case d_next_places => (refine' Pd.defIs_mk ?a ?l ?c ?k; (case a => k_is); (case l => k_is); (case c => k_is); (case k => k_is)))
      (case d_are_places => (refine' Pd.defIs_mk ?a ?l ?c ?k; (case a => k_is); (case l => k_is); (case c => k_is); (case k => k_is)))
      (case d_require_few => (refine' Pd.defIs_mk ?a ?l ?c ?k; (case a => k_is); (case l => k_is); (case c => k_is); (case k => k_is)))
      (case d_walked => (refine' Pd.defIs_mk ?a ?l ?c ?k; (case a => k_is); (case l => k_is); (case c => k_is); (case k => k_is)))
      (case d_class_of => (refine' Pd.defIs_mk ?a ?l ?c ?k; (case a => k_is); (case l => k_is); (case c => k_is); (case k => k_is)))
      (case d_require_two => (refine' Pd.defIs_mk ?a ?l ?c ?k; (case a => k_is); (case l => k_is); (case c => k_is); (case k => k_is)))
      (case d_walk_between => (refine' Pd.defIs_mk ?a ?l ?c ?k; (case a => k_is); (case l => k_is); (case c => k_is); (case k => k_is)))
      (case d_are_joined => (refine' Pd.defIs_mk ?a ?l ?c ?k; (case a => k_is); (case l => k_is); (case c => k_is); (case k => k_is)))
      (case d_is_closed => (refine' Pd.defIs_mk ?a ?l ?c ?k; (case a => k_is); (case l => k_is); (case c => k_is); (case k => k_is)))
      (case d__law_dice => (refine' Pd.defIs_mk ?a ?l ?c ?k; (case a => k_is); (case l => k_is); (case c => k_is); (case k => k_is)))
      (case d__law_roll => (refine' Pd.defIs_mk ?a ?l ?c ?k; (case a => k_is); (case l => k_is); (case c => k_is); (case k => k_is)))
      (case d__law_pick => (refine' Pd.defIs_mk ?a ?l ?c ?k; (case a => k_is); (case l => k_is); (case c => k_is); (case k => k_is)))
      (case d__law_mixed => (refine' Pd.defIs_mk ?a ?l ?c ?k; (case a => k_is); (case l => k_is); (case c => k_is); (case k => k_is)))
      (case d__law_is_whole => (refine' Pd.defIs_mk ?a ?l ?c ?k; (case a => k_is); (case l => k_is); (case c => k_is); (case k => k_is)))
      (case d__law_moved_places => (refine' Pd.defIs_mk ?a ?l ?c ?k; (case a => k_is); (case l => k_is); (case c => k_is); (case k => k_is)))
      (case d__law_is_kept => (refine' Pd.defIs_mk ?a ?l ?c ?k; (case a => k_is); (case l => k_is); (case c => k_is); (case k => k_is)))
      (case d__law_other => (refine' Pd.defIs_mk ?a ?l ?c ?k; (case a => k_is); (case l => k_is); (case c => k_is); (case k => k_is)))
      (case d_places_from => (refine' Pd.defIs_mk ?a ?l ?c ?k; (case a => k_is); (case l => k_is); (case c => k_is); (case k => k_is)))
      (case d_each_order => (refine' Pd.defIs_mk ?a ?l ?c ?k; (case a => k_is); (case l => k_is); (case c => k_is); (case k => k_is)))
      (case d__law_right => (refine' Pd.defIs_mk ?a ?l ?c ?k; (case a => k_is); (case l => k_is); (case c => k_is); (case k => k_is)))
      (case d_law => (refine' Pd.defIs_mk ?a ?l ?c ?k; (case a => k_is); (case l => k_is); (case c => k_is); (case k => k_is)))
end Cg
end
theorem PySem.Challenge.cw_pieceround_k52_whole_closed_sets_bar_wal_holds : PySem.Challenge.rw_pieceround_k52_whole_closed_sets_bar_wal.Holds :=
  Cg.tst
