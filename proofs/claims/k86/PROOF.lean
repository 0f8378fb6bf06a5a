import PyProof.Rows.All
import Wide.All
import OpenK.AllK
import Wide.FinOn
import HandS.ForMost
import HandS.GenYield
import HandS.GenList
import PyProof.LongRange
import PyProof.RangeFor
import HandS.Star
import HandS.ClsMeth
import HandS.Property
import HandS.IsInst
import HandS.OwnEq
import HandS.OwnIter
import KE.KOpsOwn
import KE.KSuper
import HandS.DictComp
import HandS.Style
import HandS.TupAny
import HandS.TupMul
import HandS.SortInts
import KE.KRevSl
import HandS.Walk
import PyProof.Draws
import PyProof.EnumMake
import PyProof.InstEq
import HandS.Head0
import HandS.HeadNt
import PySem.Challenge.RW_freetakes_k86_whole_plays_of_matches
import HandS.Head1
import HandS.Head2
import HandS.HeadEnd
import KE.KStateDown
import HandS.Strs
import KE.BitLaws
import HandS.Wide
import HandS.Deep

/-! ## G1 -/
section
set_option Elab.async false
set_option linter.all false
set_option maxRecDepth 100000
set_option maxHeartbeats 4000000
/-! generators that are walked item by item: one stretch of a run -/
namespace GF
open PySem PySem.Spec PyProof.Rows GenW L2

section
variable {M : Model} {A : Around} {Ph : End → Shared → Prop} {c : Code} {fs : List Frame} {s : Shared}
/-- one stretch: from here to the next item or to the end -/
def Sg (M : Model) (A : Around) (Ph : End → Shared → Prop) (c : Code) (t : Sem PySem.Fin) (fs : List Frame) (s : Shared) : Prop :=
  ∀ Γ p, Γ.code = c → Γ.Woken A → ∃ e s', Runs M Γ p t fs s e s' ∧ e.quiet = true ∧ Ph e s'
theorem sg_wrap {α : Type} {m : Sem α} {K : α → Sem PySem.Fin} {J : Value → Sem PySem.Fin} {gd : Bool → Bool} {lv : List Value → List Value}
    (h : wpAny M (A.over c fs) m (fun a s' => Sg M A Ph c (K a) fs s') (fun x s' => Sg M A Ph c (J x) fs s') s) : Sg M A Ph c (m.wrap K J gd lv) fs s := by
  intro Γ p hc hw
  subst hc
  exact runs_wrap_of_wp (Φ := fun e s' => e.quiet = true ∧ Ph e s') K J gd lv m (h (Γ.over fs) p (hw.over fs)) (fun a p' s' q => q Γ p' rfl hw) fun x p' s' q => q Γ p' rfl hw
theorem sg_bind {α : Type} {m : Sem α} {K : α → Sem PySem.Fin}
    (h : wpAny M (A.over c fs) m (fun a s' => Sg M A Ph c (K a) fs s') (fun x s' => Sg M A Ph c (.raise x) fs s') s) : Sg M A Ph c (m >>= K) fs s := by
  rw [Sem.bind_eq_wrap']
  exact sg_wrap h
theorem sg_bindw {α β : Type} {m : Sem α} {K : α → Sem β} {K' : β → Sem PySem.Fin} {J : Value → Sem PySem.Fin} {gd : Bool → Bool} {lv : List Value → List Value}
    (h : wpAny M (A.over c fs) m (fun a s' => Sg M A Ph c ((K a).wrap K' J gd lv) fs s') (fun x s' => Sg M A Ph c (J x) fs s') s) : Sg M A Ph c ((m >>= K).wrap K' J gd lv) fs s := by
  rw [Sem.bind_eq_wrap', Sem.wrap_wrap]
  exact sg_wrap h
theorem sg_at {p' : Pos} {k : Unit → Sem PySem.Fin} (h : Sg M A Ph c (k ()) fs s) : Sg M A Ph c (.at p' k) fs s :=
  sg_wrap (m := standAt p') (K := k) (J := .raise) (gd := id) (lv := id) (wpAny_standAt h)
theorem sg_point {l : List Value} {k : Unit → Sem PySem.Fin} (h : Sg M A Ph c (k ()) fs s) : Sg M A Ph c (.point l k) fs s :=
  sg_wrap (m := point) (K := k) (J := .raise) (gd := id) (lv := fun _ => l) (wpAny_point h)
theorem sg_rule {tag : String} {k : Unit → Sem PySem.Fin} (h : Sg M A Ph c (k ()) fs s) : Sg M A Ph c (.rule tag k) fs s :=
  sg_wrap (m := rule tag) (K := k) (J := .raise) (gd := id) (lv := id) (wpAny_rule h)
theorem sg_call {c' : Code} {hd : Option Value} {g : Bool} {l : List Value} {k : Result → Sem PySem.Fin} (h : ∀ p, Sg M A Ph c' (M.den c') (.ret k hd g l c p [] :: fs) s) : Sg M A Ph c (.call c' hd g l k) fs s := by
  intro Γ p hc hw
  subst hc
  obtain ⟨e, s', r, q⟩ := h p (Γ.goto c') p rfl (hw.goto c')
  exact ⟨e, s', runs_call_seg r, q⟩
theorem sg_leaf {k : Result → Sem PySem.Fin} {hd : Option Value} {g : Bool} {l kp : List Value} {c1 : Code} {p1 : Pos} (r : Result) (h : Sg M A Ph c1 (k r) fs s) : Sg M A Ph c (leafOf r) (.ret k hd g l c1 p1 kp :: fs) s := by
  intro Γ p hc hw
  subst hc
  obtain ⟨e, s', r', q⟩ := h (Γ.goto c1) p1 rfl (hw.goto c1)
  exact ⟨e, s', Runs.pop r r', q⟩
theorem sg_again {c' : Code} (hq : c'.quiet = true) (h : Sg M A Ph c' (M.den c') fs s) : Sg M A Ph c (.pure (.again c')) fs s := by
  intro Γ p hc hw
  subst hc
  obtain ⟨e, s', r', q⟩ := h (Γ.goto c') p rfl (hw.goto c')
  exact ⟨e, s', Runs.head (c₁ := c') (fun _ _ x => .again hq x) r', q⟩
theorem sg_end (r : Result) (h : Ph (.ret r) s) : Sg M A Ph c (leafOf r) [] s := by
  intro Γ p hc hw
  exact ⟨_, s, Runs.leaf r, rfl, h⟩
theorem sg_yield {v : Value} {g : Bool} {l : List Value} {k : Resume → Sem PySem.Fin} (hfs : splitAtGen fs = none) (hg : g = false) (hfg : fs.any Frame.guarded = false) (h : ∀ p, Ph (.susp v g l k c p fs) s) : Sg M A Ph c (.yield v g l k) fs s := by
  intro Γ p hc hw
  subst hc
  refine ⟨_, s, Runs.yield' fs hfs, ?_, h p⟩
  simp [End.quiet, hg, hfg]
theorem Sg.mono {Ph' : End → Shared → Prop} {t : Sem PySem.Fin} (h : Sg M A Ph c t fs s) (hp : ∀ e s', Ph e s' → Ph' e s') : Sg M A Ph' c t fs s := fun Γ p hc hw =>
  let ⟨e, s', r, q, w⟩ := h Γ p hc hw
  ⟨e, s', r, q, hp e s' w⟩

/-- a generator's state that goes on by r -/
def Gq (M : Model) (A : Around) (Ph : End → Shared → Prop) (gs : GenState) (r : Resume) (s : Shared) : Prop :=
  match gs with
  | .fresh c => r = .send .none ∧ Sg M A Ph c (M.den c) [] s
  | .suspended k _ c _ fs _ => Sg M A Ph c (k r) fs s
  | _ => False
theorem resume1 {E : Value → Shared → Prop} {g : Nat} {gs : GenState} {r : Resume} {l : List Value} {α : Type} {k : GenResult → Sem α} {Q : α → Shared → Prop} (hg : s.gens[g]? = some gs)
    (hgo : Gq M A Ph gs r (s.setGen g .running)) (h : ∀ e s1, e.quiet = true → s.gens.size ≤ s1.gens.size → Ph e s1 → wpAny M A (k e.result) Q E (s1.setGen g e.genState)) : wpAny M A (.resume g r l k) Q E s := by
  intro Γ p hG
  rw [Sem.wp_resume]
  have gz : ∀ {Γ' : PySem.Ctx} {p' : Pos} {t : Sem PySem.Fin} {fs : List Frame} {e : End} {s1 : Shared}, Runs M Γ' p' t fs (s.setGen g .running) e s1 → s.gens.size ≤ s1.gens.size := fun hr => by
    have q := GenW.runs_gsz hr
    rw [GenW.setGen_size] at q
    exact q
  cases gs with
  | fresh c =>
    obtain ⟨rfl, hs⟩ := hgo
    obtain ⟨e, s1, hr, hq, he⟩ := hs (Γ.wake c p) p rfl (hG.wake c p)
    refine ⟨_, _, ?_, h e s1 hq (gz hr) he Γ p hG⟩
    unfold Wakes
    rw [hg]
    exact ⟨e, s1, hr, hq, rfl, rfl⟩
  | suspended k0 l0 c0 p0 fs0 cl =>
    obtain ⟨e, s1, hr, hq, he⟩ := hgo (Γ.wake c0 p) p0 rfl (hG.wake c0 p)
    refine ⟨_, _, ?_, h e s1 hq (gz hr) he Γ p hG⟩
    unfold Wakes
    rw [hg]
    exact ⟨e, s1, hr, hq, rfl, rfl⟩
  | running => exact hgo.elim
  | finished => exact hgo.elim
end

section
variable {P : Program} {w : World} {A : Around} {E : Value → Shared → Prop} {s : Shared}
/-- the next item of a generator: Py of a value, the state and the generator's state behind it; Pe at its end -/
theorem next1 {a : Addr} {g : Nat} {gs : GenState} {Py : Value → Shared → GenState → Prop} {Pe : Shared → Prop} {Q : Option Value → Shared → Prop} (hh : A.handled = none)
    (hl : s.heap.NoLimit) (hroom : A.depth < recursionLimit) (hg : s.heap.IsGen a g) (hgs : s.gens[g]? = some gs)
    (hgo : Gq (model P w) A.in1 (fun e s1 => match e with | .ret r => r = .ok (.ret .none) ∧ Pe s1 | .susp v g0 l k c p fs => Py v s1 (End.susp v g0 l k c p fs).genState) gs (.send .none) (s.setGen g .running))
    (hY : ∀ v s1 gs', gs'.bare = true → s.gens.size ≤ s1.gens.size → Py v s1 gs' → Q (some v) (s1.setGen g gs'))
    (hP : ∀ s1, Pe s1 → ∀ h', (∀ b o, s1.heap.get? b = some o → h'.get? b = some o) → Q none { s1.setGen g .finished with heap := h' }) :
    wpAny (model P w) A (pyNext (.ref a)) Q E s := by
  unfold pyNext
  refine wpAny_bind (wpAny_attempt (wpAny_callSpecial?_slot (name := Str.ofString "__next__") hg.typeIs slot_gen_next
    (wpAny_call_entry slot_gen_next hg.typeIs entry_gen_next ?_ (args_gen_next _))))
  show wpAny _ A.in1 (Builtin.Generator.genWake (.ref a) (.send .none)) _ _ s
  unfold Builtin.Generator.genWake
  refine wpAny_bind (wpAny_holding (wpAny_genNumber hg (wpAny_bind (wpAny_genState hgs ?_))))
  cases gs with
  | running => exact hgo.elim
  | finished => exact hgo.elim
  | _ =>
    refine wpAny_bind (wpAny_roomToWake hl hroom ?_)
    show wpAny _ A.in1 (.resume g (.send .none) [] _) _ _ s
    refine resume1 hgs hgo fun e s1 hq hz he => ?_
    cases e with
    | ret r =>
      obtain ⟨hr, hp⟩ := he
      subst hr
      show wpAny _ A.in1 (newExc (.type "StopIteration") [] >>= _) _ _ _
      refine wpAny_bind ?_
      simp only [newExc, newTuple]
      refine wpAny_bind (wpAny_newObj_type ?_ (by size_fits))
      refine wpAny_bind (m := firstArgMember _ _) (wpAny_of_eq (a := Value.none) (by first | rfl | (simp only [firstArgMember]; rfl)) ?_)
      refine wpAny_newObj_type ?_ (by size_fits)
      simp only [raiseNew]
      refine wpAny_bind (wpAny_bind (wpAny_handled ?_))
      first | rw [show A.in1.handled = none from hh] | rw [hh]
      refine wpAny_throw ?_
      refine wpAny_bind (wpAny_isInstance (T := "StopIteration") (b := true) ⟨_, Heap.get?_push_size _ rfl, rfl⟩ isSubtype_stop ?_)
      exact wpAny_pure (hP s1 hp _ fun b o hb => Heap.get?_push_of_some _ (Heap.get?_push_of_some _ hb))
    | susp v g0 l k c p fs =>
      exact wpAny_pure ⟨v, rfl, wpAny_pure (hY v s1 _ (End.bare_of_quiet hq) hz he)⟩
end
end GF
end

/-! ## G2 -/
section
set_option Elab.async false
set_option linter.all false
set_option maxRecDepth 100000
set_option maxHeartbeats 4000000
namespace GF
open PySem PySem.Spec PyProof.Rows GenW L2

/-! ### a heap's first n objects -/
def cutH (n : Nat) (h : Heap) : Heap := { h with objs := Array.ofFn (n := n) fun i => h.objs.getD i.1 { cls := .none, data := .freed } }
theorem cutH_size {n : Nat} {h : Heap} : (cutH n h).objs.size = n := by
  show (Array.ofFn _).size = _
  rw [Array.size_ofFn]
theorem cutH_get {n : Nat} {h : Heap} {b : Nat} (hb : b < n) : (cutH n h).get? b = h.get? b := by
  have e : (cutH n h).objs[b]? = some (h.objs.getD b { cls := .none, data := .freed }) := by
    show (Array.ofFn _)[b]? = _
    rw [Array.getElem?_ofFn, dif_pos hb]
  unfold Heap.get?
  rw [e]
  by_cases q : b < h.objs.size
  · have e2 : h.objs[b]? = some (h.objs.getD b { cls := .none, data := .freed }) := by
      rw [Array.getElem?_eq_getElem q, Array.getD_eq_getD_getElem?, Array.getElem?_eq_getElem q]; rfl
    rw [e2]
  · have e1 : h.objs[b]? = none := Array.getElem?_eq_none (by omega)
    rw [Array.getD_eq_getD_getElem?, e1]
    rfl
theorem cutH_some {n : Nat} {h : Heap} {b : Nat} {o : Obj} (e : (cutH n h).get? b = some o) : b < n ∧ h.get? b = some o := by
  have hb : b < n := by
    have q : b < (cutH n h).objs.size := Heap.lt_size e
    rw [cutH_size] at q
    exact q
  exact ⟨hb, by rw [← cutH_get hb]; exact e⟩
theorem cutH_funs {n : Nat} {h base : Heap} : ∀ {l : List Env}, (∀ b ∈ frs l, b < n) → h.FunFrames base l → (cutH n h).FunFrames base l := by
  intro l
  induction l with
  | nil => intro _ _; trivial
  | cons env r ih =>
    intro hs hl
    obtain ⟨hk, ⟨L, o, hf, hn, ho, hd⟩, hr⟩ := hl
    have hL : L ∈ frs (env :: r) := by unfold frs; rw [List.filterMap_cons, hf]; exact List.mem_cons_self
    refine ⟨hk, ⟨L, o, hf, hn, by rw [cutH_get (hs L hL)]; exact ho, hd⟩, ih (fun b hb => hs b ?_) hr⟩
    unfold frs
    rw [List.filterMap_cons, hf]
    exact List.mem_cons_of_mem _ hb

/-! ### a generator's data: what stays through its life -/
structure GD where
  P : Program
  w : World
  K : PySem.W.Frag
  mg : Str → Option Value
  base : Heap
  N : List Str
  env : Env
  outer : List Env
  A : Around
  n0 : Nat
  pn : List (Addr × Obj)
  len : Nat
  it : Nat → V → Hp → Prop
structure GD.Ok (G : GD) : Prop where
  mod : Mod G.K G.mg G.base
  kind : G.env.scope.kind = .function
  glob : G.env.globals = mainGlobals
  blt : G.env.builtins = builtinsNs
  n0L : G.n0 ≤ G.env.locals
  cells : G.env.cells = []
  nocell : ∀ x, G.env.kindOf x ≠ some .cell ∧ G.env.kindOf x ≠ some .free
  frame : G.env.frame = some G.env.locals
  hd : G.A.handled = none
  frames : G.A.frames = some G.outer
  frs : ∀ b ∈ frs G.outer, b < G.n0
  bsz : G.base.objs.size ≤ G.n0
  co : G.env.scope.isCoroutine = false
  ne : ∀ p ∈ G.pn, G.n0 ≤ p.1 ∧ p.1 ≠ G.env.locals ∧ ∀ v, p.2.data ≠ .cell v
/-- the context of a stretch that began at s0, H0 -/
def GD.cx (G : GD) (s0 : Shared) (H0 : Hp) : Cx where
  prog := G.P
  w := G.w
  K := G.K
  mg := G.mg
  base := G.base
  A := G.A.deeper G.env
  N := G.N
  s_0 := { s0 with heap := cutH G.n0 s0.heap }
  H_0 := H0
  env := G.env
  outer := G.outer
  stack := G.env :: G.outer
  ex := []
  fn := fun _ => true
  calm := true
  pn := G.pn
  xe := fun _ _ => False
abbrev GD.E0 (G : GD) (s : Shared) (H : Hp) : Prop := Env0 G.P G.w G.K G.mg G.base G.A G.outer s H

theorem GD.cx_ok {G : GD} (ok : G.Ok) {s : Shared} {H : Hp} (e : G.E0 s H) : (G.cx s H).Ok := by
  have sz : (G.cx s H).s_0.heap.objs.size = G.n0 := cutH_size
  refine ⟨ok.mod, ok.kind, ok.glob, ok.blt, ?_, ?_, ?_, ?_, fun _ => ok.hd, Around.frames_deeper ok.frames, .inr ⟨rfl, ok.frame⟩, fun b z => ?_, fun b o q => ?_, ?_, fun b o q z => ?_, fun b z => ?_, ?_, e.frf⟩
  · rw [sz]; exact ok.n0L
  · intro x y c h1
    have h1 : G.env.cells.lookup x = some c := h1
    rw [ok.cells] at h1; cases h1
  · intro x h
    rcases h with h | h
    · exact absurd h (ok.nocell x).1
    · exact absurd h (ok.nocell x).2
  · intro x c _ h1
    have h1 : G.env.cells.lookup x = some c := h1
    rw [ok.cells] at h1; cases h1
  · cases (show b ∈ ([] : List Addr) from z)
  · obtain ⟨q1, q2⟩ := e.bs b o q
    refine ⟨?_, q2⟩
    show (cutH G.n0 s.heap).get? b = some o
    rw [cutH_get (Nat.lt_of_lt_of_le (Heap.lt_size q) ok.bsz)]
    exact q1
  · rw [sz]; exact ok.bsz
  · cases (show b ∈ ([] : List Addr) from z)
  · cases (show b ∈ ([] : List Addr) from z)
  · exact cutH_funs ok.frs e.funs
/-- the invariant at a stretch's start -/
theorem GD.inv {G : GD} (ok : G.Ok) {s : Shared} {H : Hp} {σ : L2.St} {ip : List (Addr × Obj)} (e : G.E0 s H) {t : Shared} (ht : t.heap = s.heap ∧ t.os = s.os) (hb : AllBare t.gens)
    (loc : ∃ m, s.heap.Ns G.env.locals m ∧ ∀ (i : Nat) (x : Str) (v : V), G.N[i]? = some x → σ[i]? = some (some v) → Vis G.env.scope x → ∃ u, RelV v u ∧ Look G.env s.heap m x u)
    (free : H G.env.locals = none) (pin : ∀ p ∈ G.pn ++ ip, s.heap.get? p.1 = some p.2 ∧ H p.1 = none ∧ p.1 ≠ G.env.locals ∧ p.1 ∉ frs G.outer ∧ ∀ v, p.2.data ≠ .cell v) (hl : σ.length = G.N.length) :
    Inv (G.cx s H) ip σ H t := by
  obtain ⟨th, tg, td, tt, to⟩ := t
  obtain ⟨rfl, rfl⟩ := ht
  refine ⟨G.cx_ok ok e, rfl, hb, ?_, loc, ?_, free, ?_, pin, e.hok, hl⟩
  · exact ⟨fun b o q _ _ _ => (cutH_some q).2, fun b o q _ _ _ => ⟨o.slots, (cutH_some q).2⟩, fun _ _ _ n _ => n, fun b o q _ => ⟨o, (cutH_some q).2⟩, fun _ _ q => q, fun _ _ _ q => q, fun b ps q => ⟨#[], by rw [show H b = some (.tbl ps) from q]; simp⟩⟩
  · intro x c h1
    have h1 : G.env.cells.lookup x = some c := h1
    rw [ok.cells] at h1; cases h1
  · intro x c h1
    have h1 : G.env.cells.lookup x = some c := h1
    rw [ok.cells] at h1; cases h1

/-- all but lists stands as it stood -/
def isL : HO → Bool
  | .lst _ => true
  | _ => false
def Kp (H H' : Hp) : Prop := ∀ b o, H b = some o → isL o = false → H' b = some o
theorem Kp.refl (H : Hp) : Kp H H := fun _ _ e _ => e
theorem Kp.trans {H H1 H2 : Hp} (a : Kp H H1) (b : Kp H1 H2) : Kp H H2 := fun c o e q => b c o (a c o e q) q
theorem Same.kp {H H1 : Hp} (a : Same H H1) : Kp H H1 := fun c o e _ => a c o e

/-- what a stretch leaves -/
structure Rn (G : GD) (sr : Shared) (Hr : Hp) (s : Shared) (H : Hp) : Prop where
  os : s.os = sr.os
  bare : AllBare s.gens
  un : Un (frs G.outer) [] Hr H (cutH G.n0 sr.heap) s.heap
  hok : HOk G.P G.w H s.heap
  same : Same Hr H
  pn : ∀ p ∈ G.pn, s.heap.get? p.1 = some p.2 ∧ H p.1 = none
/-- own objects: they stand apart from all else -/
structure FpG (G : GD) (fp : List Addr) (s : Shared) (H : Hp) : Prop where
  loc : G.env.locals ∈ fp
  pn : ∀ p ∈ G.pn, p.1 ∈ fp
  at_ : ∀ b ∈ fp, G.n0 ≤ b ∧ H b = none ∧ ∃ o, s.heap.get? b = some o ∧ ∀ v, o.data ≠ .cell v
/-- from s, H one may go on at sr, Hr -/
structure Rsm (G : GD) (g : Nat) (fp : List Addr) (gp : List Nat) (s : Shared) (H : Hp) (sr : Shared) (Hr : Hp) : Prop where
  gz : g < sr.gens.size
  env : G.E0 sr Hr
  kp : Kp H Hr
  fp : ∀ b ∈ fp, (∀ o, s.heap.get? b = some o → sr.heap.get? b = some o) ∧ Hr b = none
  gp : ∀ g ∈ gp, sr.gens[g]? = s.gens[g]?
/-- the end of a stretch of the generator g that has n items to give, j given; gs: its state -/
def Ph (G : GD) (g : Nat) : Nat → Nat → Shared → Hp → End → Shared → Prop
  | 0, _, sr, Hr, .ret r, s => r = .ok (.ret .none) ∧ ∃ H, Rn G sr Hr s H
  | 0, _, _, _, .susp .., _ => False
  | _ + 1, _, _, _, .ret _, _ => False
  | n + 1, j, sr, Hr, .susp v g0 l k c p fs, s => ∃ (H : Hp) (x : V) (fp : List Addr) (gp : List Nat), Rn G sr Hr s H ∧ RelV x v ∧ G.it j x H ∧ FpG G fp s H ∧ (∀ g' ∈ gp, g < g' ∧ g' < s.gens.size) ∧
      ∀ sr' Hr', Rsm G g fp gp s H sr' Hr' → Gq (model G.P G.w) G.A (Ph G g n (j + 1) sr' Hr') (End.susp v g0 l k c p fs).genState (.send .none) (sr'.setGen g .running)
/-- it lives: n items to give, j given -/
def Lv (G : GD) (g : Nat) (n j : Nat) (fp : List Addr) (gp : List Nat) (gs : GenState) (s : Shared) (H : Hp) : Prop :=
  ∀ sr Hr, Rsm G g fp gp s H sr Hr → Gq (model G.P G.w) G.A (Ph G g n j sr Hr) gs (.send .none) (sr.setGen g .running)
end GF
end

/-! ## G3 -/
section
set_option Elab.async false
set_option linter.all false
set_option maxRecDepth 100000
set_option maxHeartbeats 4000000
namespace GF
open PySem PySem.Spec PyProof.Rows GenW L2

/-! ### a generator's body: readings. j items are out, the stretch began at H0 -/
structure GEn where
  nx : Nat → Hp → L2.St → Hp → Prop
  rt : Nat → Hp → Hp → Prop
  bk : Nat → Hp → L2.St → Hp → Prop := fun _ _ _ _ => False
  ct : Nat → Hp → L2.St → Hp → Prop := fun _ _ _ _ => False
abbrev TY := GEn → Nat → Hp → L2.St → Hp → Prop
/-- where the generator's code stands -/
structure GCd (G : GD) (c : Code) (fs : List Frame) (gd : Bool → Bool) : Prop where
  over : G.A.over c fs = G.A.deeper G.env
  split : splitAtGen fs = none
  guard : fs.any Frame.guarded = false
  gd : gd false = false
/-- what holds behind a statement -/
def GP (G : GD) (g : Nat) (ip : List (Addr × Obj)) (D : GEn) (j : Nat) (sr : Shared) (H0 : Hp) (f : Flow) (s : Shared) : Prop :=
  g < s.gens.size ∧ match f with
  | .next => ∃ σ H, Inv (G.cx sr H0) ip σ H s ∧ D.nx j H0 σ H
  | .brk => ∃ σ H, Inv (G.cx sr H0) ip σ H s ∧ D.bk j H0 σ H
  | .cont => ∃ σ H, Inv (G.cx sr H0) ip σ H s ∧ D.ct j H0 σ H
  | .ret u => ∃ σ H, Inv (G.cx sr H0) ip σ H s ∧ u = .none ∧ D.rt j H0 H
/-- the wish at the end of this stretch -/
abbrev GD.ph (G : GD) (g j : Nat) (sr : Shared) (H0 : Hp) : End → Shared → Prop := Ph G g (G.len - j) j sr H0
def GFo (G : GD) (g : Nat) (ip : List (Addr × Obj)) (c : Code) (fs : List Frame) (K : Flow → Sem PySem.Fin) (D : GEn) : Prop :=
  ∀ (j : Nat) (sr : Shared) (H0 : Hp) (f : Flow) (s : Shared), GP G g ip D j sr H0 f s → Sg (model G.P G.w) G.A (G.ph g j sr H0) c (K f) fs s
structure GS1 (G : GD) (g : Nat) (st : Stmt) (t : TY) : Prop where
  run : ∀ (ip : List (Addr × Obj)) (c : Code) (fs : List Frame) (K : Flow → Sem PySem.Fin) (J : Value → Sem PySem.Fin) (gd : Bool → Bool) (lv : List Value → List Value) (j : Nat) (sr : Shared) (H0 : Hp) (s : Shared) (σ : L2.St) (H : Hp) (D : GEn),
    GCd G c fs gd → (∀ p ∈ ip, G.n0 ≤ p.1) → GFo G g ip c fs K D → g < s.gens.size → Inv (G.cx sr H0) ip σ H s → t D j H0 σ H → Sg (model G.P G.w) G.A (G.ph g j sr H0) c ((exec st G.env).wrap K J gd lv) fs s
structure GSS (G : GD) (g : Nat) (sts : List Stmt) (t : TY) : Prop where
  run : ∀ (ip : List (Addr × Obj)) (c : Code) (fs : List Frame) (K : Flow → Sem PySem.Fin) (J : Value → Sem PySem.Fin) (gd : Bool → Bool) (lv : List Value → List Value) (j : Nat) (sr : Shared) (H0 : Hp) (s : Shared) (σ : L2.St) (H : Hp) (D : GEn),
    GCd G c fs gd → (∀ p ∈ ip, G.n0 ≤ p.1) → GFo G g ip c fs K D → g < s.gens.size → Inv (G.cx sr H0) ip σ H s → t D j H0 σ H → Sg (model G.P G.w) G.A (G.ph g j sr H0) c ((execs sts G.env).wrap K J gd lv) fs s

section
variable {G : GD} {g : Nat} {st : Stmt} {rest : List Stmt}
def yEnds (D : GEn) (j : Nat) (H0 : Hp) : Ends := { nx := D.nx j H0, rt := fun v H => v = .non ∧ D.rt j H0 H, bk := D.bk j H0, ct := D.ct j H0 }
def yPl (t : TS) : TY := fun D j H0 σ H => t (yEnds D j H0) σ H
theorem sp_gp {ip : List (Addr × Obj)} {sr s : Shared} {H0 : Hp} {D : GEn} {j : Nat} {f : Flow} (hz : g < s.gens.size) (h : SP (G.cx sr H0) ip (yEnds D j H0) f s) : GP G g ip D j sr H0 f s := by
  refine ⟨hz, ?_⟩
  cases f with
  | next => exact h
  | brk => exact h
  | cont => exact h
  | ret u =>
    obtain ⟨v, σ, H, I, r, e, q⟩ := h
    subst e
    exact ⟨σ, H, I, r, q⟩
/-- a statement that gives nothing -/
theorem y_ps {t : TS} (h : ∀ sr H0, PS (G.cx sr H0) st t) : GS1 G g st (yPl t) := by
  refine ⟨fun ip c fs K J gd lv j sr H0 s σ H D g0 hip k hz I ht => ?_⟩
  refine sg_wrap ?_
  rw [g0.over]
  exact GenW.wpAny_gsz (n := g + 1) hz (wpAny_mono ((h sr H0).run _ s σ H _ I ht) (fun f s' q hz' => k j sr H0 f s' (sp_gp hz' q)) fun x s' hx => False.elim hx)
theorem yy_nil : GSS G g [] (fun D j H0 σ H => D.nx j H0 σ H) := ⟨fun ip c fs K J gd lv j sr H0 s σ H D g0 hip k hz I ht => k j sr H0 .next s ⟨hz, σ, H, I, ht⟩⟩
def yThen (t u : TY) : TY := fun D => t { D with nx := u D }
theorem yy_cons {t u : TY} (a : GS1 G g st t) (b : GSS G g rest u) : GSS G g (st :: rest) (yThen t u) := by
  refine ⟨fun ip c fs K J gd lv j sr H0 s σ H D g0 hip k hz I ht => ?_⟩
  rw [execs_cons_wrap]
  refine a.run ip c fs _ J gd lv j sr H0 s σ H { D with nx := u D } g0 hip (fun j' sr' H0' f s' q => ?_) hz I ht
  cases f with
  | next =>
    obtain ⟨hz', σ', H', I', q⟩ := q
    exact b.run ip c fs K J gd lv j' sr' H0' s' σ' H' D g0 hip k hz' I' q
  | brk => exact k j' sr' H0' .brk s' q
  | cont => exact k j' sr' H0' .cont s' q
  | ret u => exact k j' sr' H0' (.ret u) s' q
theorem yy_one {t : TY} (a : GS1 G g st t) : GSS G g [st] t := by
  refine ⟨fun ip c fs K J gd lv j sr H0 s σ H D g0 hip k hz I ht => ?_⟩
  rw [execs_cons_wrap]
  refine a.run ip c fs _ J gd lv j sr H0 s σ H D g0 hip (fun j' sr' H0' f s' q => ?_) hz I ht
  cases f with
  | next => exact k j' sr' H0' .next s' q
  | brk => exact k j' sr' H0' .brk s' q
  | cont => exact k j' sr' H0' .cont s' q
  | ret u => exact k j' sr' H0' (.ret u) s' q
def yIf (c : TT) (t u : TY) : TY := fun D j H0 σ H => c σ H fun b H1 => if b = true then t D j H0 σ H1 else u D j H0 σ H1
theorem y_if {cd : Expr} {a b : List Stmt} {pos : Pos} {tc : TT} {t u : TY} (hc : ∀ sr H0, PT (G.cx sr H0) cd tc) (ha : GSS G g a t) (hb : GSS G g b u) : GS1 G g (.If cd a b pos) (yIf tc t u) := by
  refine ⟨fun ip c fs K J gd lv j sr H0 s σ H D g0 hip k hz I ht => ?_⟩
  show Sg _ _ _ _ (Sem.wrap K J gd lv (standAt pos >>= fun _ => isTrue cd G.env (eval cd G.env) >>= fun q => if q = true then execs a G.env else execs b G.env)) _ _
  refine sg_bindw (wpAny_standAt ?_)
  refine sg_bindw ?_
  rw [g0.over]
  refine GenW.wpAny_gsz (n := g + 1) hz (wpAny_mono ((hc sr H0).run ip s σ H _ I ht) (fun q s' hq hz' => ?_) fun x s' hx => False.elim hx)
  obtain ⟨H1, I1, q1⟩ := hq
  cases q with
  | true => exact ha.run ip c fs K J gd lv j sr H0 s' σ H1 D g0 hip k hz' I1 q1
  | false => exact hb.run ip c fs K J gd lv j sr H0 s' σ H1 D g0 hip k hz' I1 q1

/-! ### yield -/
theorem inv_rn {ip : List (Addr × Obj)} {sr s : Shared} {H0 H : Hp} {σ : L2.St} (I : Inv (G.cx sr H0) ip σ H s) (hs : Same H0 H) : Rn G sr H0 s H :=
  ⟨I.os, I.bare, I.base, I.hok, hs, fun p hp => let q := I.pin p (List.mem_append_left _ hp); ⟨q.1, q.2.1⟩⟩
theorem inv_fp (ok : G.Ok) {ip : List (Addr × Obj)} {sr s : Shared} {H0 H : Hp} {σ : L2.St} (I : Inv (G.cx sr H0) ip σ H s) (hip : ∀ p ∈ ip, G.n0 ≤ p.1) : FpG G (G.env.locals :: (G.pn ++ ip).map (·.1)) s H := by
  refine ⟨List.mem_cons_self, fun p hp => List.mem_cons_of_mem _ (List.mem_map_of_mem (List.mem_append_left _ hp)), fun b hb => ?_⟩
  rcases List.mem_cons.mp hb with e | hb
  · subst e
    obtain ⟨m, ⟨o, es, ep, ho, hd, _⟩, _⟩ := I.loc
    exact ⟨ok.n0L, I.free, o, ho, fun v z => by rw [hd] at z; cases z⟩
  · obtain ⟨p, hp, e⟩ := List.mem_map.mp hb
    subst e
    obtain ⟨q1, q2, _, _, q5⟩ := I.pin p hp
    refine ⟨?_, q2, p.2, q1, q5⟩
    rcases List.mem_append.mp hp with z | z
    · exact (ok.ne p z).1
    · exact hip p z
/-- woken: the invariant over a new start -/
theorem inv_again (ok : G.Ok) {ip : List (Addr × Obj)} {sr s sr' t : Shared} {H0 H H' : Hp} {σ : L2.St} {fp : List Addr} {gp : List Nat} (I : Inv (G.cx sr H0) ip σ H s) (r : Rsm G g fp gp s H sr' H') (hfp : ∀ b ∈ G.env.locals :: (G.pn ++ ip).map (·.1), b ∈ fp)
    (ht : t.heap = sr'.heap ∧ t.os = sr'.os) (hb : AllBare t.gens) : Inv (G.cx sr' H') ip σ H' t := by
  have kL := r.fp G.env.locals (hfp _ List.mem_cons_self)
  refine G.inv ok r.env ht hb ?_ kL.2 (fun p hp => ?_) I.len
  · obtain ⟨m, ⟨o, es, ep, ho, hr⟩, hl⟩ := I.loc
    refine ⟨m, ⟨o, es, ep, kL.1 o ho, hr⟩, fun i x v h1 h2 h3 => ?_⟩
    obtain ⟨u, ru, l⟩ := hl i x v h1 h2 h3
    refine ⟨u, ru, ?_⟩
    rcases l with l | ⟨hk, _⟩
    · exact .inl l
    · rcases hk with hk | hk
      · exact absurd hk (ok.nocell x).1
      · exact absurd hk (ok.nocell x).2
  · obtain ⟨q1, q2, q3, q4, q5⟩ := I.pin p hp
    have z := r.fp p.1 (hfp _ (List.mem_cons_of_mem _ (List.mem_map_of_mem hp)))
    exact ⟨z.1 _ q1, z.2, q3, q4, q5⟩
/-- e is given, then the heap may grow -/
def yYield (G : GD) (te : TE) : TY := fun D j H0 σ H => te σ H fun x H1 => j < G.len ∧ G.it j x H1 ∧ Same H0 H1 ∧ ∀ H2, Kp H1 H2 → D.nx (j + 1) H2 σ H2
theorem y_yield (ok : G.Ok) {e : Expr} {yp pos : Pos} {te : TE} (he : ∀ sr H0, PE (G.cx sr H0) e te) : GS1 G g (.Expr (.Yield (some e) yp) pos) (yYield G te) := by
  refine ⟨fun ip c fs K J gd lv j sr H0 s σ H D g0 hip k hz I ht => ?_⟩
  have hi : interactive G.env = false := by simp [interactive, ok.kind]
  rw [exec_Expr G.env _ pos hi rfl]
  show Sg _ _ _ c (.at pos fun _ => ((eval e G.env >>= fun v => (standAt yp >>= fun _ => yieldOut G.env v)) >>= fun x => dropValue (.Yield (some e) yp) pos x).wrap K J gd lv) fs s
  have hy : ∀ v, yieldOut G.env v = yieldValue v := fun v => by simp only [yieldOut, ok.co, Bool.false_eq_true, if_false]
  simp only [hy]
  refine sg_at ?_
  rw [Sem.bind_eq_wrap', Sem.bind_eq_wrap', Sem.wrap_wrap, Sem.wrap_wrap]
  refine sg_wrap ?_
  rw [g0.over]
  refine wpAny_mono ((he sr H0).run ip s σ H _ I ht) (fun v s1 hv => ?_) fun x s' hx => False.elim hx
  obtain ⟨x, H1, I1, r1, hj, hit, hsm, hk⟩ := hv
  refine sg_at (sg_yield g0.split g0.gd g0.guard fun p => ?_)
  obtain ⟨n, hn⟩ : ∃ n, G.len - j = n + 1 := ⟨G.len - j - 1, by omega⟩
  have hn' : n = G.len - (j + 1) := by omega
  show Ph G g (G.len - j) j sr H0 _ s1
  rw [hn]
  refine ⟨H1, x, _, [], inv_rn I1 hsm, r1, hit, inv_fp ok I1 hip, fun g' z => by simp at z, fun sr' Hr' r => ?_⟩
  have I2 := inv_again ok I1 r (fun b hb => hb) (t := sr'.setGen g .running) ⟨rfl, rfl⟩ (allBare_setGen r.env.bare rfl)
  have q := k (j + 1) sr' Hr' .next (sr'.setGen g .running) ⟨by rw [GenW.setGen_size]; exact r.gz, σ, Hr', I2, hk Hr' r.kp⟩
  rw [hn']
  exact q
end
end GF
end

/-! ## G4 -/
section
set_option Elab.async false
set_option linter.all false
set_option maxRecDepth 100000
set_option maxHeartbeats 4000000
namespace GF
open PySem PySem.Spec PyProof.Rows GenW L2

/-! ### loops in a generator's body -/
/-- what a loop's call goes on with -/
def back {β : Type} (env : Env) (K : Flow → Sem β) (J : Value → Sem β) (gd : Bool → Bool) (lv : List Value → List Value) (r : Result) : Sem β :=
  ((match r with | .ok f => (.pure f : Sem Flow) | .error e => .raise e).onRaise (cameBack env)).wrap K J gd lv
section
variable {M : Model} {A : Around} {P : End → Shared → Prop} {c : Code} {fs : List Frame} {s : Shared} {env : Env}
theorem sg_runOwn {c' : Code} {K : Flow → Sem PySem.Fin} {J : Value → Sem PySem.Fin} {gd : Bool → Bool} {lv : List Value → List Value}
    (h : ∀ p, Sg M A P c' (M.den c') (.ret (back env K J gd lv) none (gd false) (lv []) c p [] :: fs) s) : Sg M A P c ((runOwn c' env).wrap K J gd lv) fs s := sg_call h
theorem sg_back {c' : Code} {K : Flow → Sem PySem.Fin} {J : Value → Sem PySem.Fin} {gd : Bool → Bool} {lv : List Value → List Value} {l kp : List Value} {g0 : Bool} {p : Pos} (f : Flow) (h : Sg M A P c (K f) fs s) : Sg M A P c' (.pure (.done f)) (.ret (back env K J gd lv) none g0 l c p kp :: fs) s :=
  sg_leaf (.ok f) h
end
section
variable {prog : Program} {w : World} {A : Around} {Ph : End → Shared → Prop} {fs : List Frame} {s : Shared} {env : Env}
/-- what a turn's body ends in -/
def turned (c : Code) (f : Flow) : Sem PySem.Fin := match f with
  | .next | .cont => .pure (.again c)
  | .brk => .pure (.done .next)
  | .ret v => .pure (.done (.ret v))
theorem sg_whileTurn {test : Expr} {body : List Stmt} (J : Value → Sem PySem.Fin)
    (h : wpAny (model prog w) (A.over (.whileLoop test body [] env) fs) (isTrue test env (eval test env)) (fun b s' => ∀ J : Value → Sem PySem.Fin,
        if b = true then Sg (model prog w) A Ph (.whileLoop test body [] env) ((execs body env).wrap (turned (.whileLoop test body [] env)) J id id) fs s' else Sg (model prog w) A Ph (.whileLoop test body [] env) (.pure (.done .next)) fs s') (fun _ _ => False) s) :
    Sg (model prog w) A Ph (.whileLoop test body [] env) ((model prog w).den (.whileLoop test body [] env)) fs s := by
  show Sg _ A Ph _ ((whileTurn test body [] env).onRaise (fun x => do noteFrame x env; theTreesLotGoes x)) fs s
  unfold whileTurn
  rw [Sem.onRaise_eq_wrap]
  refine sg_bindw (wpAny_mono h (fun b s' hb => ?_) fun x s' hx => hx.elim)
  cases b with
  | true =>
    rw [if_pos rfl, Sem.bind_eq_wrap', Sem.wrap_wrap]
    refine Eq.subst (motive := fun t => Sg (model prog w) A Ph (.whileLoop test body [] env) t fs s') (Sem.wrap_congr (execs body env) id id (fun f => ?_) fun e => rfl) ((hb _ : if true = true then _ else _))
    cases f <;> rfl
  | false => exact (hb .raise : if false = true then _ else _)
theorem sg_forTurn {tg : Expr} {it : Value} {body : List Stmt}
    (h : wpAny (model prog w) (A.over (.forLoop tg it body [] env) fs) (pyNext it) (fun r s1 => match r with
        | none => Sg (model prog w) A Ph (.block [] env) (.pure (.done .next)) fs s1
        | some v => wpAny (model prog w) (A.over (.forLoop tg it body [] env) fs) (letOwnedTupleGo tg it v) (fun _ s2 => wpAny (model prog w) (A.over (.forLoop tg it body [] env) fs) (assign tg env v) (fun _ s3 => ∀ J : Value → Sem PySem.Fin,
            Sg (model prog w) A Ph (.forLoop tg it body [] env) ((execs body env).wrap (turned (.forLoop tg it body [] env)) J id id) fs s3) (fun _ _ => False) s2) (fun _ _ => False) s1) (fun _ _ => False) s) :
    Sg (model prog w) A Ph (.forLoop tg it body [] env) ((model prog w).den (.forLoop tg it body [] env)) fs s := by
  show Sg _ A Ph _ ((forTurn tg it body [] env).onRaise (fun x => do noteFrame x env; theTreesLotGoes x)) fs s
  unfold forTurn
  rw [Sem.onRaise_eq_wrap]
  refine sg_bindw (wpAny_standAt ?_)
  refine sg_bindw (wpAny_onRaise (wpAny_mono h (fun r s1 h1 => ?_) fun x s' hx => hx.elim))
  cases r with
  | none => exact sg_again rfl h1
  | some v =>
    refine sg_bindw (wpAny_mono h1 (fun _ s2 h2 => ?_) fun x s' hx => hx.elim)
    refine sg_bindw (wpAny_mono h2 (fun _ s3 h3 => ?_) fun x s' hx => hx.elim)
    rw [Sem.bind_eq_wrap', Sem.wrap_wrap]
    refine Eq.subst (motive := fun t => Sg (model prog w) A Ph (.forLoop tg it body [] env) t fs s3) (Sem.wrap_congr (execs body env) id id (fun f => ?_) fun e => rfl) (h3 _)
    cases f <;> rfl
end

section
variable {G : GD} {g : Nat}
theorem gcd_loop {c c' : Code} {fs : List Frame} {gd : Bool → Bool} {k : Result → Sem PySem.Fin} {l kp : List Value} {p : Pos} (g0 : GCd G c fs gd) (hw : c'.weight = 0) (hu : c'.cUnits = 0) : GCd G c' (.ret k none (gd false) l c p kp :: fs) id where
  over := (over_loop hw hu).trans g0.over
  split := by
    show (splitAtGen fs).map _ = none
    rw [g0.split]; rfl
  guard := by
    show (gd false || fs.any Frame.guarded) = false
    rw [g0.gd, g0.guard]; rfl
  gd := rfl

def yWhile (tc : TT) (tb : TY) : TY := fun D j H0 σ H => ∃ W : Nat → Nat → Hp → L2.St → Hp → Prop, (∃ m, W m j H0 σ H) ∧ ∀ m j H0 σ H, W m j H0 σ H →
  tc σ H fun b H1 => if b = true then ∃ N : Nat → Hp → L2.St → Hp → Prop, (∀ j' H0' σ' H', N j' H0' σ' H' → ∃ m', m' < m ∧ W m' j' H0' σ' H') ∧ tb { D with nx := N, ct := N, bk := D.nx } j H0 σ H1 else D.nx j H0 σ H1
theorem y_while {test : Expr} {body : List Stmt} {pos : Pos} {tc : TT} {tb : TY} (hc : ∀ sr H0, PT (G.cx sr H0) test tc) (hb : GSS G g body tb) : GS1 G g (.While test body [] pos) (yWhile tc tb) := by
  refine ⟨fun ip c fs K J gd lv j sr H0 s σ H D g0 hip k hz I ht => ?_⟩
  obtain ⟨W, ⟨m0, w0⟩, turn⟩ := ht
  show Sg _ _ _ _ (Sem.wrap K J gd lv (standAt pos >>= fun _ => runOwn (.whileLoop test body [] G.env) G.env)) _ _
  refine sg_bindw (wpAny_standAt (sg_runOwn fun p => ?_))
  have gl := gcd_loop (k := back G.env K J gd lv) (c' := .whileLoop test body [] G.env) (l := lv []) (kp := []) (p := p) g0 rfl rfl
  have loop : ∀ (m j : Nat) (sr : Shared) (H0 : Hp) (s : Shared) (σ : L2.St) (H : Hp), W m j H0 σ H → g < s.gens.size → Inv (G.cx sr H0) ip σ H s →
      Sg (model G.P G.w) G.A (G.ph g j sr H0) (.whileLoop test body [] G.env) ((model G.P G.w).den (.whileLoop test body [] G.env)) (.ret (back G.env K J gd lv) none (gd false) (lv []) c p [] :: fs) s := by
    intro m
    induction m using Nat.strongRecOn with
    | ind m ih =>
      intro j sr H0 s σ H wm hz I
      refine sg_whileTurn .raise ?_
      rw [gl.over]
      refine GenW.wpAny_gsz (n := g + 1) hz (wpAny_mono ((hc sr H0).run ip s σ H _ I (turn m j H0 σ H wm)) (fun b s' hb' hz' J' => ?_) fun x s' hx => False.elim hx)
      obtain ⟨H2, I2, q2⟩ := hb'
      cases b with
      | true =>
        obtain ⟨N, hN, q2⟩ := q2
        rw [if_pos rfl]
        refine hb.run ip _ _ _ J' id id j sr H0 s' σ H2 { D with nx := N, ct := N, bk := D.nx } gl hip (fun j' sr' H0' f s3 q => ?_) hz' I2 q2
        have again : ∀ {σ3 : L2.St} {H3 : Hp}, Inv (G.cx sr' H0') ip σ3 H3 s3 → N j' H0' σ3 H3 → Sg (model G.P G.w) G.A (G.ph g j' sr' H0') (.whileLoop test body [] G.env) (.pure (.again (.whileLoop test body [] G.env))) (.ret (back G.env K J gd lv) none (gd false) (lv []) c p [] :: fs) s3 := fun I3 n3 => by
          obtain ⟨m', hm, w3⟩ := hN _ _ _ _ n3
          exact sg_again rfl (ih m' hm j' sr' H0' s3 _ _ w3 q.1 I3)
        cases f with
        | next => obtain ⟨_, σ3, H3, I3, n3⟩ := id q; exact again I3 n3
        | cont => obtain ⟨_, σ3, H3, I3, n3⟩ := id q; exact again I3 n3
        | brk => exact sg_back .next (k j' sr' H0' .next s3 q)
        | ret v => exact sg_back (.ret v) (k j' sr' H0' (.ret v) s3 q)
      | false =>
        rw [if_neg Bool.false_ne_true]
        exact sg_back .next (k j sr H0 .next s' ⟨hz', σ, H2, I2, q2⟩)
  exact loop m0 j sr H0 s σ H w0 hz I

def yFor (wi : TI) (gg : TG) (tb : TY) : TY := fun D j H0 σ H => wi σ H fun J H1 => ∃ W : Nat → Nat → Nat → Hp → L2.St → Hp → Prop, (∃ m, W 0 m j H0 σ H1) ∧ ∀ i m j H0 σ H, W i m j H0 σ H →
  (J.stop i H ∧ D.nx j H0 σ H) ∨ (J.go i H ∧ ∃ N : Nat → Hp → L2.St → Hp → Prop, (∀ j' H0' σ' H', N j' H0' σ' H' → ∃ m', m' < m ∧ W (i + 1) m' j' H0' σ' H') ∧ ∀ x H', J.yld i H x H' → gg x σ H' fun σ2 H2 => tb { D with nx := N, ct := N, bk := D.nx } j H0 σ2 H2)
theorem y_for {tg iter : Expr} {body : List Stmt} {wi : TI} {gg : TG} {tb : TY} {pos : Pos} (hi : ∀ sr H0, PI (G.cx sr H0) tg iter wi) (hg : ∀ sr H0, PG (G.cx sr H0) tg gg) (hb : GSS G g body tb)
    (hs : ∀ x, foldedSetIterable iter G.env x = pure x := by intro _; rfl) : GS1 G g (.For tg iter body [] pos) (yFor wi gg tb) := by
  refine ⟨fun ip c fs K J gd lv j sr H0 s σ H D g0 hip k hz I ht => ?_⟩
  rw [exec_For]
  refine sg_bindw (wpAny_standAt ?_)
  refine sg_bindw ?_
  rw [g0.over]
  refine GenW.wpAny_gsz (n := g + 1) hz (wpAny_mono ((hi sr H0).run ip s σ H _ I ht) (fun v s1 h1 hz => ?_) fun x s' hx => hx.elim)
  refine sg_bindw (wpAny_of_eq (hs v) ?_)
  refine sg_bindw (wpAny_standAt ?_)
  refine sg_bindw ?_
  rw [g0.over]
  refine wpAny_holding (GenW.wpAny_gsz (n := g + 1) hz (wpAny_mono h1 (fun itv s2 h2 hz => ?_) fun x s' hx => hx.elim))
  obtain ⟨it, fp, tn, Jt, H2, e, I2, T, st2, f2, W, ⟨m0, w0⟩, turn⟩ := h2
  subst e
  refine sg_runOwn fun p => ?_
  have gl := gcd_loop (k := back G.env K J gd lv) (c' := .forLoop tg (.ref it) body [] G.env) (l := lv []) (kp := []) (p := p) g0 rfl rfl
  have n0b : ∀ b ∈ fp, G.n0 ≤ b := fun b hb => by
    rcases (f2 b hb).2.2.2.1 with z | z
    · cases (show b ∈ ([] : List Addr) from z)
    · have z : (cutH G.n0 sr.heap).objs.size ≤ b := z
      rw [cutH_size] at z
      exact z
  have stat : ∀ {sr' : Shared} {H0' H' : Hp}, (∀ b ∈ fp, H' b = none) → ∀ b ∈ fp, FpOk (G.cx sr' H0') ip H' b := fun hn b hb => by
    obtain ⟨_, f1, f3, _, f5, f6⟩ := f2 b hb
    exact ⟨hn b hb, f1, f3, .inr (by show (cutH G.n0 _).objs.size ≤ b; rw [cutH_size]; exact n0b b hb), f5, f6⟩
  have loop : ∀ (m i j : Nat) (sr : Shared) (H0 : Hp) (s : Shared) (σ : L2.St) (H : Hp), g < s.gens.size → Inv (G.cx sr H0) ip σ H s → tn i s.heap → (∀ b ∈ fp, H b = none) → W i m j H0 σ H →
      Sg (model G.P G.w) G.A (G.ph g j sr H0) (.forLoop tg (.ref it) body [] G.env) ((model G.P G.w).den (.forLoop tg (.ref it) body [] G.env)) (.ret (back G.env K J gd lv) none (gd false) (lv []) c p [] :: fs) s := by
    intro m
    induction m using Nat.strongRecOn with
    | ind m ih =>
      intro i j sr H0 s σ H hz I3 st3 fr3 w3
      refine sg_forTurn ?_
      rw [gl.over]
      rcases turn i m j H0 σ H w3 with ⟨stop, qn⟩ | ⟨go, N, hN, step⟩
      · refine GenW.wpAny_gsz (n := g + 1) hz (thn (T.done (G.cx sr H0) rfl rfl rfl rfl i ip s σ H _ I3 (stat fr3) st3 stop) fun r s4 ⟨hr, I4⟩ hz => ?_)
        subst hr
        exact sg_back .next (k j sr H0 .next s4 ⟨hz, σ, H, I4, qn⟩)
      · refine GenW.wpAny_gsz (n := g + 1) hz (thn (T.item (G.cx sr H0) rfl rfl rfl rfl i ip s σ H _ I3 (stat fr3) st3 go) fun r s4 ⟨u, hr, h4⟩ hz => ?_)
        subst hr
        refine GenW.wpAny_gsz (n := g + 1) hz (thn h4 fun _ s5 ⟨x, H5, I5, r5, y5, st5, fr5⟩ hz => ?_)
        have I5' := I5.pinned (stat fr5) (T.obj _ _ st5)
        refine GenW.wpAny_gsz (n := g + 1) hz (wpAny_mono ((hg sr H0).run _ s5 σ H5 x u _ I5' r5 (step x H5 y5)) (fun _ s6 ⟨σ6, H6, I6, q6⟩ hz J' => ?_) fun x s' hx _ => False.elim hx)
        have hip' : ∀ q ∈ ip ++ pinsAt fp s5.heap, G.n0 ≤ q.1 := fun q hq => by
          rcases List.mem_append.mp hq with z | z
          · exact hip q z
          · exact n0b _ (of_pinsAt z).1
        refine hb.run (ip ++ pinsAt fp s5.heap) _ _ _ J' id id j sr H0 s6 σ6 H6 { D with nx := N, ct := N, bk := D.nx } gl hip' (fun j' sr' H0' f s7 q7 => ?_) hz I6 q6
        have again : ∀ {σ7 : L2.St} {H7 : Hp}, Inv (G.cx sr' H0') (ip ++ pinsAt fp s5.heap) σ7 H7 s7 → N j' H0' σ7 H7 → Sg (model G.P G.w) G.A (G.ph g j' sr' H0') (.forLoop tg (.ref it) body [] G.env) (.pure (.again (.forLoop tg (.ref it) body [] G.env))) (.ret (back G.env K J gd lv) none (gd false) (lv []) c p [] :: fs) s7 := fun {σ7 H7} I7 n7 => by
          obtain ⟨m', hm, w7⟩ := hN _ _ _ _ n7
          refine sg_again rfl (ih m' hm (i + 1) j' sr' H0' s7 σ7 H7 q7.1 I7.unpinned (T.keep _ _ _ st5 fun b hb o e => (I7.pin (b, o) (List.mem_append_right _ (List.mem_append_right _ (mem_pinsAt hb e)))).1) (fun b hb => ?_) w7)
          obtain ⟨o, e, d⟩ := T.obj _ _ st5 b hb
          exact (I7.pin (b, o) (List.mem_append_right _ (List.mem_append_right _ (mem_pinsAt hb e)))).2.1
        cases f with
        | next => obtain ⟨_, σ7, H7, I7, n7⟩ := id q7; exact again I7 n7
        | cont => obtain ⟨_, σ7, H7, I7, n7⟩ := id q7; exact again I7 n7
        | brk => obtain ⟨hz7, σ7, H7, I7, q7⟩ := q7; exact sg_back .next (k j' sr' H0' .next s7 ⟨hz7, σ7, H7, I7.unpinned, q7⟩)
        | ret v => obtain ⟨hz7, σ7, H7, I7, r7, q7⟩ := q7; exact sg_back (.ret v) (k j' sr' H0' (.ret v) s7 ⟨hz7, σ7, H7, I7.unpinned, r7, q7⟩)
  exact loop m0 0 j sr H0 s2 σ H2 hz I2 st2 (fun b hb => (f2 b hb).1) w0
end
end GF
end

/-! ## G5 -/
section
set_option Elab.async false
set_option linter.all false
set_option maxRecDepth 100000
set_option maxHeartbeats 4000000
namespace GF
open PySem PySem.Spec PyProof.Rows GenW L2

/-! ### yield from -/
/-- an iterator at it, in the state of the heaps h, H: n items xs -/
structure QW (P : Program) (w : World) (it : Addr) (n : Nat) (xs : Nat → V) (Stt : Nat → Heap → Hp → Prop) : Prop where
  ty : ∃ T, (∀ j h H, Stt j h H → ∃ o, h.get? it = some o ∧ o.cls = .type T ∧ ∀ v, o.data ≠ .cell v) ∧ typeLookup (.type T) "close" = pure none ∧ (Value.type T != Value.type "generator") = true
  keep : ∀ j h h' H H', Stt j h H → (∀ o, h.get? it = some o → h'.get? it = some o) → Kp H H' → Stt j h' H'
  item : ∀ (A : Around) (j : Nat) (s : Shared) (H : Hp) (Q : Option Value → Shared → Prop) (E : Value → Shared → Prop), A.handled = none → j < n → HOk P w H s.heap → Stt j s.heap H →
    (∀ v h' tk, RelV (xs j) v → Stt (j + 1) h' H → (∀ b o, b ≠ it → s.heap.get? b = some o → h'.get? b = some o) → Q (some v) { s with heap := h', toks := tk }) → wpAny (model P w) A (callSpecial? (.ref it) "__next__") Q E s
  done : ∀ (A : Around) (s : Shared) (H : Hp) (Q : Option Value → Shared → Prop) (E : Value → Shared → Prop), A.handled = none → HOk P w H s.heap → Stt n s.heap H →
    (∀ e h' tk, StopX e h' → (∀ b o, b ≠ it → s.heap.get? b = some o → h'.get? b = some o) → E e { s with heap := h', toks := tk }) → wpAny (model P w) A (callSpecial? (.ref it) "__next__") Q E s

section
variable {prog : Program} {w : World} {A : Around} {E : Value → Shared → Prop} {s : Shared}
theorem special_rng_item {it : Addr} {x left step : Int} {Q : Option Value → Shared → Prop} (hit : IsRangeIter s.heap it x left step) (hleft : 0 < left)
    (hQ : ∀ h', IsRangeIter h' it (x + step) (left - 1) step → Heap.SameBut it s.heap h' → Q (some (.int x s.toks)) { s with heap := h', toks := s.toks + 1 }) : wpAny (model prog w) A (callSpecial? (.ref it) "__next__") Q E s := by
  have hT : s.TypeIs (.ref it) "range_iterator" := ⟨_, hit, rfl⟩
  refine wpAny_callSpecial?_slot (name := Str.ofString "__next__") hT F.slot_range_iterator_next (call_meets F.slot_range_iterator_next hT F.entry_range_iterator_next (F.args_range_iterator_next_1 _) (AutoRange.range_iterator___next___range_iterator_1 it x left step (by omega)) ⟨hit, ?_⟩)
  exact hQ _ (Heap.get?_update_self _ (Heap.get?_update_self _ hit rfl) rfl) ((Heap.SameBut.update ..).trans (Heap.SameBut.update ..))
theorem special_lng_item {it : Addr} {x left step : Int} {Q : Option Value → Shared → Prop} (hit : IsLongIter s.heap it x left step) (hleft : 0 < left)
    (hQ : ∀ h', IsLongIter h' it (x + step) (left - 1) step → Heap.SameBut it s.heap h' → Q (some (.int x s.toks)) { s with heap := h', toks := s.toks + 1 }) : wpAny (model prog w) A (callSpecial? (.ref it) "__next__") Q E s := by
  have hT : s.TypeIs (.ref it) "longrange_iterator" := ⟨_, hit, rfl⟩
  refine wpAny_callSpecial?_slot (name := Str.ofString "__next__") hT F.slot_longrange_iterator_next (call_meets F.slot_longrange_iterator_next hT F.entry_longrange_iterator_next (F.args_longrange_iterator_next_1 _) (AutoLong.next_1 it x left step (by omega)) ⟨hit, ?_⟩)
  exact hQ _ (Heap.get?_update_self _ (Heap.get?_update_self _ hit rfl) rfl) ((Heap.SameBut.update ..).trans (Heap.SameBut.update ..))
/-- the raise that ends an iterator -/
theorem raise_stop {α : Type} {it : Addr} {Q : α → Shared → Prop} (hh : A.handled = none) (hE : ∀ e h', StopX e h' → Heap.ExtBut it s.heap h' → E e { s with heap := h' }) :
    wpAny (model prog w) A (newExc (.type "StopIteration") []) (fun e s' => wpAny (model prog w) A (raiseNew e : Sem α) Q E s') E s := by
  simp only [newExc, newTuple]
  refine wpAny_bind (wpAny_newObj_type ?_ (by size_fits))
  refine wpAny_bind (m := firstArgMember _ _) (wpAny_of_eq (a := Value.none) (by first | rfl | (simp only [firstArgMember]; rfl)) ?_)
  refine wpAny_newObj_type ?_ (by size_fits)
  simp only [raiseNew]
  refine wpAny_bind (wpAny_handled ?_)
  rw [hh]
  refine wpAny_bind (wpAny_pure (wpAny_throw ?_))
  refine hE _ _ ⟨_, _, _, rfl, Heap.get?_push_size _ rfl, rfl, rfl, ?_⟩ (((Heap.ExtBut.refl it s.heap).push _).push _)
  first
    | rfl
    | (rw [Array.getElem?_append_left (by decide)]; rfl)
    | kernel_rfl
theorem special_rng_end {it : Addr} {x left step : Int} {Q : Option Value → Shared → Prop} (hh : A.handled = none) (hit : IsRangeIter s.heap it x left step) (hleft : left ≤ 0)
    (hE : ∀ e h', StopX e h' → Heap.ExtBut it s.heap h' → E e { s with heap := h' }) : wpAny (model prog w) A (callSpecial? (.ref it) "__next__") Q E s := by
  have hT : s.TypeIs (.ref it) "range_iterator" := ⟨_, hit, rfl⟩
  refine wpAny_callSpecial?_slot (name := Str.ofString "__next__") hT F.slot_range_iterator_next (wpAny_call_entry F.slot_range_iterator_next hT F.entry_range_iterator_next ?_ (F.args_range_iterator_next_1 _))
  show wpAny _ _ (field (.ref it) 0 >>= _) _ _ s
  refine wpAny_bind (wpAny_field hit rfl (x := rawInt x) rfl ?_)
  show wpAny _ _ (field (.ref it) 1 >>= _) _ _ s
  refine wpAny_bind (wpAny_field hit rfl (x := rawInt left) rfl ?_)
  show wpAny _ _ (field (.ref it) 2 >>= _) _ _ s
  refine wpAny_bind (wpAny_field hit rfl (x := rawInt step) rfl ?_)
  show wpAny _ _ (if left ≤ 0 then _ else _) _ _ s
  rw [if_pos hleft]
  exact wpAny_bind (wpAny_rule (wpAny_bind (wpAny_bind (raise_stop (A := A.in1) hh hE))))
theorem special_lng_end {it : Addr} {x left step : Int} {Q : Option Value → Shared → Prop} (hh : A.handled = none) (hit : IsLongIter s.heap it x left step) (hleft : left ≤ 0)
    (hE : ∀ e h', StopX e h' → Heap.ExtBut it s.heap h' → E e { s with heap := h' }) : wpAny (model prog w) A (callSpecial? (.ref it) "__next__") Q E s := by
  have hT : s.TypeIs (.ref it) "longrange_iterator" := ⟨_, hit, rfl⟩
  refine wpAny_callSpecial?_slot (name := Str.ofString "__next__") hT F.slot_longrange_iterator_next (wpAny_call_entry F.slot_longrange_iterator_next hT F.entry_longrange_iterator_next ?_ (F.args_longrange_iterator_next_1 _))
  show wpAny _ _ (bound "longrange_iterator.__next__" ⟨[.ref it], []⟩ >>= _) _ _ s
  rw [bound_longnext]
  refine wpAny_bind (wpAny_pure ?_)
  show wpAny _ _ (Builtin.Iterators_pickling.intField _ (.ref it) 0 >>= _) _ _ s
  refine wpAny_bind (wpAny_intField hit rfl rfl ?_)
  show wpAny _ _ (Builtin.Iterators_pickling.intField _ (.ref it) 1 >>= _) _ _ s
  refine wpAny_bind (wpAny_intField hit rfl rfl ?_)
  show wpAny _ _ (Builtin.Iterators_pickling.intField _ (.ref it) 2 >>= _) _ _ s
  refine wpAny_bind (wpAny_intField hit rfl rfl ?_)
  show wpAny _ _ (if left ≤ 0 then _ else _) _ _ s
  rw [if_pos hleft]
  exact wpAny_bind (wpAny_rule (wpAny_bind (thn (raise_stop (A := A.in1) hh hE) fun _ _ q => wpAny_bind q)))
end
theorem close_rng : typeLookup (.type "range_iterator") "close" = pure none := by rw [typeLookup_type, builtinLookup_eq_fast]; kernel_rfl
theorem close_lng : typeLookup (.type "longrange_iterator") "close" = pure none := by rw [typeLookup_type, builtinLookup_eq_fast]; kernel_rfl

theorem qw_tup {P : Program} {w : World} {it a : Addr} {xs : List V} : QW P w it xs.length (fun i => xs.getD i .non) (fun j h H => IsTupIter h it a j ∧ a ≠ it ∧ H a = some (.tup xs)) where
  ty := ⟨"tuple_iterator", fun j h H q => let ⟨⟨o, ho, hc, hd⟩, _⟩ := q; ⟨o, ho, hc, fun v z => by rw [hd] at z; cases z⟩, close_tup, by decide⟩
  keep := fun j h h' H H' q k kp => let ⟨⟨o, ho, r⟩, z, q2⟩ := q; ⟨⟨o, k o ho, r⟩, z, kp a _ q2 rfl⟩
  item := fun A j s H Q E hA hj ok q hQ => by
    obtain ⟨q1, z, q2⟩ := q
    obtain ⟨hl, its, rits, ht⟩ := ok a _ q2
    have hx : xs[j]? = some (xs.getD j .non) := by rw [List.getD_eq_getElem?_getD, List.getElem?_eq_getElem hj]; rfl
    obtain ⟨u, hu, ru⟩ := rits.get hx
    exact special_tup_item q1 ht (x := u) (by simpa using hu) fun h' q1' hs => hQ u h' s.toks ru ⟨q1', z, q2⟩ fun b o hb eb => hs.extBut b o hb eb
  done := fun A s H Q E hA ok q hE => by
    obtain ⟨q1, z, q2⟩ := q
    obtain ⟨hl, its, rits, ht⟩ := ok a _ q2
    have hnone : its.toArray[xs.length]? = none := by
      have e := rits.length
      have e2 : its[xs.length]? = none := List.getElem?_eq_none_iff.mpr (by omega)
      simpa using e2
    exact special_tup_end hA q1 ht hnone fun e h' hS hk => hE e h' s.toks hS fun b o hb eb => hk b o hb eb
theorem qw_rng {P : Program} {w : World} {it : Addr} {lo : Int} {n : Nat} : QW P w it n (fun i => .int (lo + i)) (fun j h H => IsRangeIter h it (lo + j) ((n : Int) - j) 1) where
  ty := ⟨"range_iterator", fun j h H q => ⟨_, q, rfl, fun v z => by cases z⟩, close_rng, by decide⟩
  keep := fun j h h' H H' q k kp => k _ q
  item := fun A j s H Q E hA hj ok q hQ => by
    refine special_rng_item q (by omega) fun h' q1 hs => hQ _ h' _ ⟨_, rfl⟩ ?_ fun b o hb eb => hs.extBut b o hb eb
    have e1 : lo + ((j + 1 : Nat) : Int) = lo + j + 1 := by omega
    have e2 : (n : Int) - ((j + 1 : Nat) : Int) = n - j - 1 := by omega
    rw [e1, e2]
    exact q1
  done := fun A s H Q E hA ok q hE => special_rng_end hA q (by omega) fun e h' hS hk => hE e h' s.toks hS fun b o hb eb => hk b o hb eb
theorem qw_lng {P : Program} {w : World} {it : Addr} {lo : Int} {n : Nat} : QW P w it n (fun i => .int (lo + i)) (fun j h H => IsLongIter h it (lo + j) ((n : Int) - j) 1) where
  ty := ⟨"longrange_iterator", fun j h H q => ⟨_, q, rfl, fun v z => by cases z⟩, close_lng, by decide⟩
  keep := fun j h h' H H' q k kp => k _ q
  item := fun A j s H Q E hA hj ok q hQ => by
    refine special_lng_item q (by omega) fun h' q1 hs => hQ _ h' _ ⟨_, rfl⟩ ?_ fun b o hb eb => hs.extBut b o hb eb
    have e1 : lo + ((j + 1 : Nat) : Int) = lo + j + 1 := by omega
    have e2 : (n : Int) - ((j + 1 : Nat) : Int) = n - j - 1 := by omega
    rw [e1, e2]
    exact q1
  done := fun A s H Q E hA ok q hE => special_lng_end hA q (by omega) fun e h' hS hk => hE e h' s.toks hS fun b o hb eb => hk b o hb eb
end GF
end

/-! ## G6 -/
section
set_option Elab.async false
set_option linter.all false
set_option maxRecDepth 100000
set_option maxHeartbeats 4000000
namespace GF
open PySem PySem.Spec PyProof.Rows GenW L2

abbrev TYR := L2.St → Hp → (Nat → (Nat → V) → Hp → Prop) → Prop
/-- an expression under «yield from»: what its iterator gives -/
structure YfR (X : Cx) (e : Expr) (t : TYR) : Prop where
  run : ∀ (pins : List (Addr × Obj)) (s : Shared) (σ : L2.St) (H : Hp) (R : Nat → (Nat → V) → Hp → Prop), Inv X pins σ H s → t σ H R → wpAny (model X.prog X.w) X.A (eval e X.env) (fun v s1 => ∃ T, s1.TypeIs v T ∧ (Value.type T == Value.type "coroutine") = false ∧
    wpAny (model X.prog X.w) X.A (pyIter v) (fun u s2 => ∃ (it : Addr) (H' : Hp) (n : Nat) (xs : Nat → V) (Stt : Nat → Heap → Hp → Prop), u = .ref it ∧ Inv X pins σ H' s2 ∧ FpOk X pins H' it ∧ Stt 0 s2.heap H' ∧ QW X.prog X.w it n xs Stt ∧ R n xs H') X.xe s1) X.xe s
section
variable {X : Cx} {e : Expr} {te : TE}
theorem yr_tup (he : PE X e te) : YfR X e (fun σ H R => te σ H fun x H1 => ∃ a xs, x = .ref a ∧ H1 a = some (.tup xs) ∧ R xs.length (fun i => xs.getD i .non) H1) := by
  refine ⟨fun pins s σ H R I h => ?_⟩
  refine thn (he.run pins s σ H _ I h) fun v s1 ⟨x, H1, I1, r1, a, xs, ex, ha, hq⟩ => ?_
  subst ex
  obtain rfl : v = Value.ref a := r1
  obtain ⟨hlen, its, rits, ht⟩ := I1.hok a _ ha
  refine ⟨"tuple", ht.typeIs, by decide, iter_tuple ht ?_⟩
  have kp : ∀ b o, s1.heap.get? b = some o → (s1.heap.push { cls := .type "tuple_iterator", data := .fields #[.ref a, .int 0 0] }).get? b = some o := fun b o e => Heap.get?_push_of_some _ e
  exact ⟨s1.heap.objs.size, H1, xs.length, _, _, rfl, I1.kept (t' := s1.toks) kp, I1.fpOk (Nat.le_refl _) (I1.hok.fresh (Nat.le_refl _)), ⟨⟨_, Heap.get?_push_size _ rfl, rfl, rfl⟩, Nat.ne_of_lt ht.lt, ha⟩, qw_tup, hq⟩
theorem yr_rng {a b : Expr} {ta : TA} {p pos : Pos} (hg : Gl X "range") (hm : X.mg "range" = none) (ha : PA X [a, b] ta) (hs : starEach [a, b] X.env = [(false, eval a X.env), (false, eval b X.env)] := by rfl) (hs2 : starEach [b] X.env = [(false, eval b X.env)] := by rfl) :
    YfR X (.Call (.Name "range" p) [a, b] [] pos) (fun σ H R => ta σ H fun vs H1 => ∃ i j : Int, vs = [.int i, .int j] ∧ R (j - i).toNat (fun k => .int (i + k)) H1) := by
  refine ⟨fun pins s σ H R I h => ?_⟩
  refine Call_ (ld_blt I hg hm boot_range (PyProof.Rows.callWith_type1 (thn (ha.run pos pins s σ H _ I h) fun us s1 ⟨vs, H1, I1, r1, q1⟩ => ?_) (by rw [hs, hs2]) (by rw [hs2]; rfl)))
  obtain ⟨i, j, e, q⟩ := q1
  subst e
  obtain ⟨u1, u2, rfl, ⟨t1, rfl⟩, ⟨t2, rfl⟩⟩ := vals2 r1
  refine call_range_2 ?_
  have hr := IsRange.new s1.heap i j 1 t1 t2 s1.toks
  refine ⟨"range", ⟨_, hr, rfl⟩, by decide, ?_⟩
  have kp0 : ∀ b o, s1.heap.get? b = some o → (s1.heap.push { cls := .type "range", data := .fields #[.int i t1, .int j t2, .int 1 s1.toks] }).get? b = some o := fun b o e => Heap.get?_push_of_some _ e
  have I2 : Inv X pins σ H1 { s1 with heap := s1.heap.push { cls := .type "range", data := .fields #[.int i t1, .int j t2, .int 1 s1.toks] }, toks := s1.toks + 1 } := I1.kept kp0
  have fp : FpOk X pins H1 (s1.heap.push { cls := .type "range", data := .fields #[.int i t1, .int j t2, .int 1 s1.toks] }).objs.size := I2.fpOk (Nat.le_refl _) (I2.hok.fresh (Nat.le_refl _))
  have e2 : (((j - i).toNat : Nat) : Int) - ((0 : Nat) : Int) = Builtin.Range.rangeSize i j 1 := by rw [rangeSize_one]; split <;> omega
  have e1 : i + ((0 : Nat) : Int) = i := by omega
  cases hsm : Builtin.Range.small i j 1 with
  | true =>
    refine wpAny_pyIter_range hr hsm ?_
    refine ⟨_, H1, (j - i).toNat, _, _, rfl, I2.kept (t' := s1.toks + 1) fun b o e => Heap.get?_push_of_some _ e, fp, ?_, qw_rng (lo := i), q⟩
    show IsRangeIter _ _ (i + ((0 : Nat) : Int)) ((((j - i).toNat : Nat) : Int) - ((0 : Nat) : Int)) 1
    rw [e1, e2]
    exact Heap.get?_push_size _ rfl
  | false =>
    refine wpAny_pyIter_longrange hr hsm ?_
    refine ⟨_, H1, (j - i).toNat, _, _, rfl, I2.kept (t' := s1.toks + 1) fun b o e => Heap.get?_push_of_some _ e, fp, ?_, qw_lng (lo := i), q⟩
    show IsLongIter _ _ (i + ((0 : Nat) : Int)) ((((j - i).toNat : Nat) : Int) - ((0 : Nat) : Int)) 1
    rw [e1, e2]
    exact Heap.get?_push_size _ rfl
end

section
variable {G : GD} {g : Nat}
abbrev yfCode (it : Addr) : Code := .builtin "proto.yield_from" ⟨[.ref it, .bool false, .none], []⟩
theorem sg_from (ok : G.Ok) {ip : List (Addr × Obj)} {fs : List Frame} {it : Addr} {n : Nat} {xs : Nat → V} {Stt : Nat → Heap → Hp → Prop} {σ : L2.St} {H1 : Hp} {j : Nat} (q : QW G.P G.w it n xs Stt) (hip : ∀ p ∈ ip, G.n0 ≤ p.1)
    (hfp : ∀ (sr : Shared) (H0 H : Hp), H it = none → FpOk (G.cx sr H0) ip H it) (hit0 : G.n0 ≤ it) (hh : (G.A.over (yfCode it) fs).handled = none) (hsp : splitAtGen fs = none) (hgd : fs.any Frame.guarded = false) (hjn : j + n ≤ G.len)
    (hgit : ∀ i, i < n → ∀ H, G.it (j + i) (xs i) H)
    (hend : ∀ (sr : Shared) (H0 H : Hp) (s : Shared), Kp H1 H → Same H0 H → g < s.gens.size → Inv (G.cx sr H0) ip σ H s → Sg (model G.P G.w) G.A (G.ph g (j + n) sr H0) (yfCode it) (.pure (.done (.ret .none))) fs s) :
    ∀ (r i : Nat) (sr : Shared) (H0 H : Hp) (s : Shared), i + r = n → Kp H1 H → Same H0 H → g < s.gens.size → Inv (G.cx sr H0) ip σ H s → H it = none → Stt i s.heap H →
      Sg (model G.P G.w) G.A (G.ph g (j + i) sr H0) (yfCode it) ((model G.P G.w).den (yfCode it)) fs s := by
  obtain ⟨T, hT, hcl, hng⟩ := q.ty
  have turned : ∀ {sr : Shared} {H0 H : Hp} {s : Shared} {h' : Heap} {tk : Nat}, Inv (G.cx sr H0) ip σ H s → H it = none → (∀ b o, b ≠ it → s.heap.get? b = some o → h'.get? b = some o) → Inv (G.cx sr H0) ip σ H { s with heap := h', toks := tk } := fun {sr H0 H s h' tk} I hn hk => by
    obtain ⟨f0, f1, f2, f3, f4, f5⟩ := hfp sr H0 H hn
    exact I.turned hk f0 f1 f3 f4 f5
  intro r
  induction r with
  | zero =>
    intro i sr H0 H s hi hkp hsm hz I hn hst
    obtain rfl : i = n := by omega
    have e := den_yf (X := G.cx sr H0) (it := .ref it)
    rw [show (model G.P G.w).den (yfCode it) = Builtin.«proto.yield_from» ⟨[.ref it, .bool false, .none], []⟩ from e]
    unfold Builtin.«proto.yield_from»
    try dsimp only
    refine sg_bind (wpAny_pure ?_)
    try dsimp only
    refine sg_bind (wpAny_attempt (wpAny_holding ?_))
    rw [if_neg Bool.false_ne_true, if_pos (show (Value.none == Value.none) = true from rfl)]
    refine wpAny_bind (wpAny_rule (wpAny_bind ?_))
    refine q.done _ s H _ _ hh I.hok hst fun e h' tk hS hk => ?_
    obtain ⟨a, o, vs, rfl, hoa, hcls, hdat, h5⟩ := hS
    try dsimp only
    refine sg_bind (wpAny_endsTurn hoa hcls ?_)
    try dsimp only
    rw [if_pos rfl]
    first
      | refine sg_bind (wpAny_rule ?_)
      | (rw [if_neg Bool.false_ne_true]; refine sg_bind (wpAny_rule ?_))
      | (rw [if_neg Bool.false_ne_true]; refine sg_bind (wpAny_pure ?_); refine sg_bind (wpAny_rule ?_))
    refine sg_bind (wpAny_field hoa hdat h5 ?_)
    exact hend sr H0 H _ hkp hsm hz (turned I hn hk)
  | succ r ih =>
    intro i sr H0 H s hi hkp hsm hz I hn hst
    have hin : i < n := by omega
    have e := den_yf (X := G.cx sr H0) (it := .ref it)
    rw [show (model G.P G.w).den (yfCode it) = Builtin.«proto.yield_from» ⟨[.ref it, .bool false, .none], []⟩ from e]
    unfold Builtin.«proto.yield_from»
    try dsimp only
    refine sg_bind (wpAny_pure ?_)
    try dsimp only
    refine sg_bind (wpAny_attempt (wpAny_holding ?_))
    rw [if_neg Bool.false_ne_true, if_pos (show (Value.none == Value.none) = true from rfl)]
    refine wpAny_bind (wpAny_rule (wpAny_bind ?_))
    refine q.item _ i s H _ _ hh hin I.hok hst fun v h' tk rv hst' hk => ?_
    have I' := turned (tk := tk) I hn hk
    obtain ⟨oi, hoi, hoc, hnc⟩ := hT (i + 1) h' H hst'
    refine wpAny_pure ?_
    try dsimp only
    refine sg_bind (wpAny_typeOf (T := T) ⟨oi, hoi, hoc⟩ ?_)
    try dsimp only
    first
      | (refine sg_bind (wpAny_of_eq hcl ?_); refine sg_bind (wpAny_pure ?_))
      | refine sg_bind (wpAny_bind (wpAny_of_eq hcl (wpAny_pure ?_)))
      | refine sg_bind (wpAny_of_eq hcl ?_)
    try dsimp only
    refine sg_bind (wpAny_sleptOver hoi hoc hng ?_)
    refine sg_yield hsp rfl hgd fun p => ?_
    obtain ⟨m, hm⟩ : ∃ m, G.len - (j + i) = m + 1 := ⟨G.len - (j + i) - 1, by omega⟩
    have hm' : m = G.len - (j + (i + 1)) := by omega
    show Ph G g (G.len - (j + i)) (j + i) sr H0 _ _
    rw [hm]
    have Ip := I'.pinned (fp := [it]) (fun b hb => by rw [List.mem_singleton.mp hb]; exact hfp sr H0 H hn) (fun b hb => by rw [List.mem_singleton.mp hb]; exact ⟨oi, hoi, hnc⟩)
    have hip2 : ∀ p ∈ ip ++ pinsAt [it] h', G.n0 ≤ p.1 := fun p hp => by
      rcases List.mem_append.mp hp with z | z
      · exact hip p z
      · rw [List.mem_singleton.mp (of_pinsAt z).1]; exact hit0
    refine ⟨H, xs i, _, [], inv_rn Ip hsm, rv, hgit i hin H, inv_fp ok Ip hip2, fun g' z => by simp at z, fun sr' Hr' rs => ?_⟩
    have I2 := inv_again ok Ip rs (fun b hb => hb) (t := sr'.setGen g .running) ⟨rfl, rfl⟩ (allBare_setGen rs.env.bare rfl)
    have hpi : (it, oi) ∈ ip ++ pinsAt [it] h' := List.mem_append_right _ (mem_pinsAt (List.mem_singleton.mpr rfl) hoi)
    have kit := rs.fp it (List.mem_cons_of_mem _ (List.mem_map.mpr ⟨(it, oi), List.mem_append_right _ hpi, rfl⟩))
    have hst2 : Stt (i + 1) (sr'.setGen g .running).heap Hr' := q.keep _ _ _ _ _ hst' (fun o e => kit.1 o e) rs.kp
    obtain ⟨oj, hoj, hojc, _⟩ := hT (i + 1) _ _ hst2
    show Sg _ _ (Ph G g m (j + (i + 1)) sr' Hr') _ (Builtin.Generator.sleptOver (.ref it) false >>= fun _ => _) fs (sr'.setGen g .running)
    refine sg_bind (wpAny_sleptOver hoj hojc hng ?_)
    try dsimp only
    refine sg_bind (wpAny_pure ?_)
    have go := ih (i + 1) sr' Hr' Hr' (sr'.setGen g .running) (by omega) (hkp.trans rs.kp) (fun _ _ z => z) (by rw [GenW.setGen_size]; exact rs.gz) I2.unpinned kit.2 hst2
    rw [hm']
    exact sg_again (plainId_quiet plain_yf _) go

def yFrom (G : GD) (t : TYR) : TY := fun D j H0 σ H => t σ H fun n xs H1 => j + n ≤ G.len ∧ Same H0 H1 ∧ (∀ i, i < n → ∀ H2, G.it (j + i) (xs i) H2) ∧ ∀ H0' H2, Kp H1 H2 → Same H0' H2 → D.nx (j + n) H0' σ H2
theorem y_from (ok : G.Ok) {e : Expr} {yp pos : Pos} {t : TYR} (he : ∀ sr H0, YfR (G.cx sr H0) e t) : GS1 G g (.Expr (.YieldFrom e yp) pos) (yFrom G t) := by
  refine ⟨fun ip c fs K J gd lv j sr H0 s σ H D g0 hip k hz I ht => ?_⟩
  have hi : interactive G.env = false := by simp [interactive, ok.kind]
  rw [exec_Expr G.env _ pos hi rfl]
  show Sg _ _ _ c (.at pos fun _ => ((eval e G.env >>= fun v => (standAt yp >>= fun _ => yieldFrom G.env v)) >>= fun x => dropValue (.YieldFrom e yp) pos x).wrap K J gd lv) fs s
  refine sg_at ?_
  rw [Sem.bind_eq_wrap' (eval e G.env >>= fun v => (standAt yp >>= fun _ => yieldFrom G.env v)), Sem.wrap_wrap]
  refine sg_bindw ?_
  rw [g0.over]
  refine GenW.wpAny_gsz (n := g + 1) hz (wpAny_mono ((he sr H0).run ip s σ H _ I ht) (fun v s1 hv hz => ?_) fun x s' hx => False.elim hx)
  obtain ⟨T, hT, hne, hit⟩ := hv
  have hne' : ¬ ((Value.type T == Value.type "coroutine") = true) := by rw [hne]; exact Bool.false_ne_true
  refine sg_at ?_
  show Sg _ _ _ c ((yieldFrom G.env v).wrap (fun b => (dropValue (.YieldFrom e yp) pos b).wrap K J gd lv) J gd lv) fs s1
  unfold yieldFrom
  refine sg_bindw (wpAny_typeOf hT ?_)
  rw [if_neg hne']
  refine sg_bindw (wpAny_holding ?_)
  rw [g0.over]
  refine GenW.wpAny_gsz (n := g + 1) hz (wpAny_mono hit (fun u s2 hu hz => ?_) fun x s' hx => False.elim hx)
  obtain ⟨it, H', n, xs, Stt, rfl, I2, f2, st2, q, hjn, hsm, hgit, hnx⟩ := hu
  refine sg_call fun p => ?_
  have n0b : G.n0 ≤ it := by
    rcases f2.2.2.2.1 with z | z
    · cases (show it ∈ ([] : List Addr) from z)
    · have z : (cutH G.n0 sr.heap).objs.size ≤ it := z
      rw [cutH_size] at z
      exact z
  refine sg_from ok (ip := ip) (H1 := H') (σ := σ) q hip (fun sr' H0' Hx hn => ?_) n0b ?_ ?_ ?_ hjn hgit (fun sr' H0' Hx sx kx smx hzx Ix => ?_) n 0 sr H0 H' s2 (Nat.zero_add _) (Kp.refl _) hsm hz I2 f2.1 st2
  · obtain ⟨_, f1, f3, _, f5, f6⟩ := f2
    exact ⟨hn, f1, f3, .inr (by show (cutH G.n0 _).objs.size ≤ it; rw [cutH_size]; exact n0b), f5, f6⟩
  · show (G.A.over c fs).handled = none
    rw [g0.over]; exact ok.hd
  · show (splitAtGen fs).map _ = none
    rw [g0.split]; rfl
  · show (gd false || fs.any Frame.guarded) = false
    rw [g0.gd, g0.guard]; rfl
  · exact sg_leaf (.ok (.ret .none)) (k (j + n) sr' H0' .next sx ⟨hzx, σ, Hx, Ix, hnx H0' Hx kx smx⟩)
end
end GF
end

/-! ## G7 -/
section
set_option Elab.async false
set_option linter.all false
set_option maxRecDepth 100000
set_option maxHeartbeats 4000000
namespace GF
open PySem PySem.Spec PyProof.Rows GenW L2

/-! ### a generator def and its call -/
/-- a generator's own object -/
structure GenO (o : Obj) (g : Nat) : Prop where
  cls : o.cls = .type "generator"
  data : ∃ nm qn, o.data = .fields #[.int g 0, nm, qn]
  slots : o.slots = #[]
theorem GenO.gen {o : Obj} {g : Nat} (h : GenO o g) {hp : Heap} {a : Addr} (e : hp.get? a = some o) : hp.IsGen a g :=
  let ⟨nm, qn, d⟩ := h.data
  ⟨o, nm, qn, e, h.cls, d, h.slots⟩
/-- the generator's data, by what its maker knows; A: where it is walked -/
abbrev mkG (P : Program) (w : World) (K : PySem.W.Frag) (mg : Str → Option Value) (base : Heap) (outer : List Env) (N : List Str) (env : Env) (n0 : Nat) (a : Addr) (go : Obj) (len : Nat) (it : Nat → V → Hp → Prop) (A : Around) : GD :=
  { P := P, w := w, K := K, mg := mg, base := base, N := N, env := env, outer := outer, A := A, n0 := n0, pn := [(a, go)], len := len, it := it }
/-- it stands at a with n items to give, j given -/
structure LvAt (G : GD) (a : Addr) (g : Nat) (go : Obj) (n j : Nat) (fp : List Addr) (gp : List Nat) (gs : GenState) (s : Shared) (H : Hp) : Prop where
  at_ : s.heap.get? a = some go
  go_ : GenO go g
  gens : s.gens[g]? = some gs
  own : FpG G fp s H
  ing : ∀ g' ∈ gp, g < g' ∧ g' < s.gens.size
  lv : Lv G g n j fp gp gs s H
theorem LvAt.move {G : GD} {a : Addr} {g : Nat} {go : Obj} {n j : Nat} {fp : List Addr} {gp : List Nat} {gs : GenState} {s s' : Shared} {H H' : Hp} (L : LvAt G a g go n j fp gp gs s H) (ha : a ∈ fp) (kp : Kp H H')
    (hf : ∀ b ∈ fp, (∀ o, s.heap.get? b = some o → s'.heap.get? b = some o) ∧ H' b = none) (hg : s'.gens[g]? = s.gens[g]?) (hgp : ∀ g' ∈ gp, s'.gens[g']? = s.gens[g']?) : LvAt G a g go n j fp gp gs s' H' where
  at_ := (hf a ha).1 _ L.at_
  go_ := L.go_
  gens := hg.trans L.gens
  own := ⟨L.own.loc, L.own.pn, fun b hb => let ⟨q1, q2, o, q3, q4⟩ := L.own.at_ b hb; ⟨q1, (hf b hb).2, o, (hf b hb).1 o q3, q4⟩⟩
  ing := fun g' hm => ⟨(L.ing g' hm).1, by
    have q := (L.ing g' hm).2
    have e := hgp g' hm
    rw [Array.getElem?_eq_getElem q] at e
    exact (Array.getElem?_eq_some_iff.mp e).1⟩
  lv := fun sr Hr r => L.lv sr Hr ⟨r.gz, r.env, kp.trans r.kp, fun b hb => ⟨fun o e => (r.fp b hb).1 o ((hf b hb).1 o e), (r.fp b hb).2⟩, fun g' hm => (r.gp g' hm).trans (hgp g' hm)⟩

/-- what a call gives: a generator that has not begun -/
def GMd (P : Program) (w : World) (K : PySem.W.Frag) (mg : Str → Option Value) (base : Heap) (k : Nat) (outer : List Env) (H : Hp) (s : Shared) (len : Nat) (it : Nat → V → Hp → Prop) (u : Value) (s' : Shared) : Prop :=
  s'.os = s.os ∧ AllBare s'.gens ∧ (∀ b o, s.heap.get? b = some o → s'.heap.get? b = some o) ∧ ∃ (N : List Str) (env : Env) (a : Addr) (g : Nat) (go : Obj) (fp : List Addr) (gs : GenState), u = .ref a ∧ a ∈ fp ∧ s.gens.size ≤ g ∧
    ∀ A : Around, Room k A → A.frames = some outer → (mkG P w K mg base outer N env s.heap.objs.size a go len it A).Ok ∧ LvAt (mkG P w K mg base outer N env s.heap.objs.size a go len it A) a g go len 0 fp [] gs s' H
/-- a generator def's promise: the arguments, the heap, how many items it gives, what they are -/
abbrev SpY := List V → Hp → Nat → (Nat → V → Hp → Prop) → Prop
structure YFn (P : Program) (w : World) (K : PySem.W.Frag) (mg : Str → Option Value) (base : Heap) (k : Nat) (f : Addr) (fd : FuncData) (ps : List Str) (sp : SpY) : Prop where
  len : ∀ vs H n it, sp vs H n it → vs.length = ps.length
  run : ∀ (A : Around) (outer : List Env) (s : Shared) (H : Hp) (args : Args) (us : List Value) (vs : List V) (n : Nat) (it : Nat → V → Hp → Prop), Room k A → Env0 P w K mg base A outer s H → BindsTo s fd args (ps.zip us) → Vals vs us → sp vs H n it →
    codeAny (model P w) A (.call (.ref f) args) (fun r s' => match r with | .ok (.ret u) => GMd P w K mg base k outer H s n it u s' | _ => False) s

/-- THE RULE: a generator def, by its body -/
theorem yfn_of {P : Program} {w : World} {K : PySem.W.Frag} {mg : Str → Option Value} {base : Heap} {k : Nat} {f : Addr} {name qual : Str} {params : Arguments} {body : List Stmt} {scope : Scope} {dV kV doc pm cdv ct oc : Value} {an od : Option Addr}
    {osl : Array (Option Value)} {N ps : List Str} {sp : SpY} (lk : K.lookup f = some ⟨oc, od, .func (PySem.W.fnOf name qual params body scope dV kV doc pm an cdv ct), osl⟩) (hcd : PySem.W.codeIn K cdv qual = true) (S : GScope N ps scope)
    (noc : ∀ y ∈ scope.names, y.2 ≠ .cell) (len : ∀ vs H n it, sp vs H n it → vs.length = ps.length)
    (hbody : ∀ (A : Around) (outer : List Env) (s : Shared) (H : Hp) (vs : List V) (n : Nat) (it : Nat → V → Hp → Prop) (a : Addr) (g : Nat) (go : Obj), Room k (A.deeper (envOfC qual scope s.heap.objs.size f cdv)) → sp vs H n it →
      (mkG P w K mg base outer N (envOfC qual scope s.heap.objs.size f cdv) s.heap.objs.size a go n it A).Ok →
      ∃ t, GSS (mkG P w K mg base outer N (envOfC qual scope s.heap.objs.size f cdv) s.heap.objs.size a go n it A) g body t ∧ ∀ H1, Kp H H1 → t { nx := fun j H0 _ H' => j = n ∧ Same H0 H', rt := fun j H0 H' => j = n ∧ Same H0 H' } 0 H1 (start N vs) H1) :
    YFn P w K mg base (k + 1) f (PySem.W.fnOf name qual params body scope dV kV doc pm an cdv ct) ps sp := by
  refine ⟨len, fun A outer s H args us vs n it hr e0 hb r hsp => ?_⟩
  have hl := len _ _ _ _ hsp
  have KX : K.In s.heap := e0.mod.kin.keeps fun b o e => (e0.bs b o e).1
  have lim : s.heap.NoLimit := e0.mod.nolimit.keeps fun b o e => (e0.bs b o e).1
  have hkind : ∀ y ∈ ps.zip us, scope.names.lookup y.1 = some .local ∨ (scope.names.lookup y.1 = some .cell ∧ ((cellsFrom (s.heap.objs.size + 1) scope.names []).lookup y.1).isSome = true) := fun ⟨x, v⟩ hy => by
    rcases S.par x (List.of_mem_zip hy).1 with q | q
    · exact .inl q
    · exact .inr ⟨q, PySem.W.cellsFrom_some _ _ _ (.inl q)⟩
  refine codeAny_call_generator hr.depth (KX _ _ lk) rfl S.co S.gen rfl (PySem.W.codeRec_of KX hcd) (hb _ _ _ _ ?_)
  refine wpAny_newFunctionEnv_cells S.kind hkind fun env he s1 x => ?_
  subst he
  have lim1 : s1.heap.NoLimit := lim.keeps x.toInCall.keep
  refine ⟨lim1, ?_⟩
  obtain ⟨h1, tk, es1, hk1⟩ := x.done
  have os1 : s1.os = s.os := by rw [es1]
  have gen1 : s1.gens = s.gens := by rw [es1]
  have lt1 : s.heap.objs.size < s1.heap.objs.size := x.toInCall.ns.lt
  have kp1 : ∀ b o, s.heap.get? b = some o → s1.heap.get? b = some o := x.toInCall.keep
  have main : ∀ (go : Obj) (nm qn : Value) (tk2 : Nat), go.cls = .type "generator" → go.data = .fields #[.int s1.gens.size 0, nm, qn] → go.slots = #[] → (∀ h : Heap, (h.push go).get? h.objs.size = some go) →
      GMd P w K mg base (k + 1) outer H s n it (.ref s1.heap.objs.size) { s1 with gens := s1.gens.push (.fresh (.func body (envOfC qual scope s.heap.objs.size f cdv))), toks := tk2, heap := s1.heap.push go } := by
    intro go nm qn tk2 hgc hgd0 hgs hgp
    have hpushed : (s1.heap.push go).get? s1.heap.objs.size = some go := hgp _
    have hnc : ∀ v, go.data ≠ .cell v := fun v q => by rw [hgd0] at q; cases q
    refine ⟨os1, AllBare.push (by rw [gen1]; exact e0.bare) rfl, fun b o e => Heap.get?_push_of_some _ (kp1 b o e), N, envOfC qual scope s.heap.objs.size f cdv, s1.heap.objs.size, s1.gens.size, go, [s.heap.objs.size, s1.heap.objs.size], .fresh (.func body (envOfC qual scope s.heap.objs.size f cdv)), rfl, by simp, Nat.le_of_eq (by rw [gen1]), fun Aw hrw hfr => ?_⟩
    have frlt : ∀ b ∈ frs outer, b < s.heap.objs.size := fun b hm => by
      obtain ⟨_, o, ho, _⟩ := e0.funs.mem hm
      exact Heap.lt_size ho
    have cnil : ∀ (l : List (Str × NameKind)) (i : Nat), (∀ y ∈ l, y.2 ≠ .cell) → cellsFrom i l [] = [] := by
      intro l
      induction l with
      | nil => intro i _; rfl
      | cons y r ih =>
        intro i hy
        obtain ⟨y1, y2⟩ := y
        have h2 : y2 ≠ .cell := hy (y1, y2) List.mem_cons_self
        have h3 := fun i => ih i fun z hz => hy z (List.mem_cons_of_mem _ hz)
        cases y2 <;> first | exact absurd rfl h2 | (simp only [cellsFrom]; exact h3 _)
    have lkk : ∀ (l : List (Str × NameKind)) (x : Str) (q : NameKind), l.lookup x = some q → ∃ y ∈ l, y.2 = q := fun l x q e => ⟨(x, q), PySem.mem_of_lookup e, rfl⟩
    have ok : (mkG P w K mg base outer N (envOfC qual scope s.heap.objs.size f cdv) s.heap.objs.size s1.heap.objs.size go n it Aw).Ok := by
      refine ⟨e0.mod, S.kind, rfl, rfl, Nat.le_refl _, cnil _ _ noc, fun x => ⟨fun h => ?_, fun h => ?_⟩, rfl, hrw.hd, hfr, frlt, e0.bsz, S.co, fun p hp => ?_⟩
      · obtain ⟨y, hy, e⟩ := lkk _ _ _ h
        exact noc y hy e
      · obtain ⟨y, hy, e⟩ := lkk _ _ _ h
        exact S.nofree y hy e
      · rw [List.mem_singleton.mp hp]
        exact ⟨Nat.le_of_lt lt1, Nat.ne_of_gt lt1, hnc⟩
    have I1 : Inv (cxOf CX0 P w K mg base N qual scope f cdv A outer s H E0) [] (start N vs) H s1 := by
      obtain ⟨J1, J2, J3, J4, J5, J6, J7, J8, J9, J10, J11⟩ := inv_startG (E := E0) S hr.hd e0 hl r x
      exact ⟨⟨J1.mod, J1.kind, J1.glob, J1.blt, J1.above, J1.inj, J1.has, J1.cab, J1.hd, J1.frames, J1.stk, J1.exf, J1.bs, J1.bsz, J1.noex, J1.exfs, J1.funs, J1.frf⟩, J2, J3, J4, J5, J6, J7, J8, J9, J10, J11⟩
    have fL : H s.heap.objs.size = none := e0.hok.fresh (Nat.le_refl _)
    have fa : H s1.heap.objs.size = none := e0.hok.fresh (Nat.le_of_lt lt1)
    obtain ⟨mL, nsL, lcL⟩ := I1.loc
    obtain ⟨oL, esL, epL, hoL, hrL⟩ := nsL
    refine ⟨ok, hpushed, ⟨hgc, ⟨nm, qn, hgd0⟩, hgs⟩, Array.getElem?_push_size .., ⟨List.mem_cons_self, fun p hp => by rw [List.mem_singleton.mp hp]; simp, fun b hb => ?_⟩, fun g' hm => by simp at hm, fun sr Hr rs => ?_⟩
    · rcases List.mem_cons.mp hb with e | hb
      · subst e
        exact ⟨Nat.le_refl _, fL, oL, Heap.get?_push_of_some _ hoL, fun v z => by rw [hrL.1] at z; cases z⟩
      · rw [List.mem_singleton.mp hb]
        exact ⟨Nat.le_of_lt lt1, fa, go, hpushed, hnc⟩
    · refine ⟨rfl, ?_⟩
      have kL := rs.fp s.heap.objs.size List.mem_cons_self
      have ka := rs.fp s1.heap.objs.size (List.mem_cons_of_mem _ List.mem_cons_self)
      obtain ⟨t, ht, hq⟩ := hbody Aw outer s H vs n it s1.heap.objs.size s1.gens.size go (hrw.deeper _) hsp ok
      have I2 : Inv ((mkG P w K mg base outer N (envOfC qual scope s.heap.objs.size f cdv) s.heap.objs.size s1.heap.objs.size go n it Aw).cx sr Hr) [] (start N vs) Hr (sr.setGen s1.gens.size .running) := by
        refine GD.inv ok rs.env ⟨rfl, rfl⟩ (allBare_setGen rs.env.bare rfl) ⟨mL, ⟨oL, esL, epL, kL.1 oL (Heap.get?_push_of_some _ hoL), hrL⟩, fun i y v q1 q2 q3 => ?_⟩ kL.2 (fun p hp => ?_) I1.len
        · obtain ⟨u, ru, l⟩ := lcL i y v q1 q2 q3
          refine ⟨u, ru, ?_⟩
          rcases l with l | ⟨hk, _⟩
          · exact .inl l
          · rcases hk with hk | hk
            · exact absurd hk (ok.nocell y).1
            · exact absurd hk (ok.nocell y).2
        · rw [List.append_nil] at hp
          rw [List.mem_singleton.mp hp]
          exact ⟨ka.1 go hpushed, ka.2, Nat.ne_of_gt lt1, fun hm => absurd (Nat.lt_trans (frlt _ hm) lt1) (Nat.lt_irrefl _), hnc⟩
      show Sg (model P w) Aw _ (.func body _) (.point [] fun _ => ((execs body (envOfC qual scope s.heap.objs.size f cdv)).onRaise (leaving (envOfC qual scope s.heap.objs.size f cdv))) >>= _) [] _
      refine sg_point ?_
      rw [Sem.onRaise_eq_wrap, Sem.bind_eq_wrap', Sem.wrap_wrap]
      have fin : ∀ (j : Nat) (sr' s' : Shared) (H0 H' : Hp) (σ' : L2.St), j = n → Same H0 H' → Inv ((mkG P w K mg base outer N (envOfC qual scope s.heap.objs.size f cdv) s.heap.objs.size s1.heap.objs.size go n it Aw).cx sr' H0) [] σ' H' s' →
          Ph (mkG P w K mg base outer N (envOfC qual scope s.heap.objs.size f cdv) s.heap.objs.size s1.heap.objs.size go n it Aw) s1.gens.size (n - j) j sr' H0 (.ret (.ok (.ret .none))) s' := fun j sr' s' H0 H' σ' ej sm I => by
        subst ej
        rw [Nat.sub_self]
        exact ⟨rfl, H', inv_rn I sm⟩
      refine ht.run [] _ [] _ _ id id 0 sr Hr _ (start N vs) Hr _ ⟨over_func, rfl, rfl, rfl⟩ (fun p hp => by simp at hp) (fun j sr' H0 fl s' q => ?_) (by rw [GenW.setGen_size]; exact rs.gz) I2 (hq Hr rs.kp)
      cases fl with
      | next =>
        obtain ⟨_, σ', H', I, q1, q2⟩ := q
        exact sg_end (.ok (.ret .none)) (fin j sr' s' H0 H' σ' q1 q2 I)
      | brk => obtain ⟨_, _, _, _, q⟩ := q; exact q.elim
      | cont => obtain ⟨_, _, _, _, q⟩ := q; exact q.elim
      | ret u =>
        obtain ⟨_, σ', H', I, eu, q1, q2⟩ := q
        subst eu
        exact sg_end (.ok (.ret .none)) (fin j sr' s' H0 H' σ' q1 q2 I)
  exact main _ _ _ _ rfl rfl rfl fun h => Heap.get?_push_size _ rfl
end GF
end

/-! ## G8 -/
section
set_option Elab.async false
set_option linter.all false
set_option maxRecDepth 100000
set_option maxHeartbeats 4000000
namespace GF
open PySem PySem.Spec PyProof.Rows GenW L2

theorem thz {α : Type} {t : Sem α} {Q Q' : α → Shared → Prop} {M : Model} {A : Around} {E : Value → Shared → Prop} {s : Shared} {n : Nat} (hn : n ≤ s.gens.size) (h : wpAny M A t Q E s) (hQ : ∀ a s', Q a s' → n ≤ s'.gens.size → Q' a s') : wpAny M A t Q' E s :=
  GenW.wpAny_gsz hn (wpAny_mono h hQ fun _ _ x _ => x)
theorem Gq.mono {M : Model} {A : Around} {Ph Ph' : End → Shared → Prop} {gs : GenState} {r : Resume} {s : Shared} (h : Gq M A Ph gs r s) (hp : ∀ e s', Ph e s' → Ph' e s') : Gq M A Ph' gs r s := by
  cases gs with
  | fresh c => exact ⟨h.1, Sg.mono h.2 hp⟩
  | suspended k l c p fs cl => exact Sg.mono (show Sg M A Ph c (k r) fs s from h) hp
  | running => exact h.elim
  | finished => exact h.elim

/-! ### who walks a generator -/
/-- what the walker holds is older than the generator -/
structure Young (X : Cx) (pins : List (Addr × Obj)) (n0 : Nat) : Prop where
  loc : X.env.locals < n0
  s0 : X.s_0.heap.objs.size ≤ n0
  cell : ∀ x c, X.env.cells.lookup x = some c → c < n0
  pin : ∀ p ∈ X.pn ++ pins, p.1 < n0
theorem young {X : Cx} {pins : List (Addr × Obj)} {σ : L2.St} {H : Hp} {s : Shared} (I : Inv X pins σ H s) : Young X pins s.heap.objs.size where
  loc := I.lt
  s0 := I.sz
  cell := fun x c e => let ⟨_, o, ho, _⟩ := I.cell x c e; Heap.lt_size ho
  pin := fun p hp => Heap.lt_size (I.pin p hp).1
/-- behind a stretch of a generator the walker's invariant stands -/
theorem Inv.ran {X : Cx} {pins : List (Addr × Obj)} {σ : L2.St} {H H1 : Hp} {s s1 : Shared} {n0 : Nat} (I : Inv X pins σ H s) (Y : Young X pins n0) (os : s1.os = s.os) (bare : AllBare s1.gens) (un : Un (frs X.stack) [] H H1 (cutH n0 s.heap) s1.heap) (hok : HOk X.prog X.w H1 s1.heap) : Inv X pins σ H1 s1 := by
  have hb : ∀ (b : Addr) (o : Obj), s.heap.get? b = some o → b ∉ (List.range s.heap.objs.size).filter (fun b => decide (n0 ≤ b)) → (cutH n0 s.heap).get? b = some o := fun b o e hx => by
    have lt := Heap.lt_size e
    have : ¬ n0 ≤ b := fun q => hx (List.mem_filter.mpr ⟨List.mem_range.mpr lt, decide_eq_true q⟩)
    rw [cutH_get (Nat.lt_of_not_le this)]
    exact e
  refine I.call' (ch := (List.range s.heap.objs.size).filter fun b => decide (n0 ≤ b)) os ⟨fun b o e n hf hx => un.keep b o (hb b o e hx) n hf (by simp), fun b o e n hf hx => un.slot b o (hb b o e hx) n hf (by simp), fun b o e n hx => un.free b o (hb b o e hx) n (by simp), fun b o e hx => un.there b o (hb b o e hx) (by simp), un.tups, un.frzs, un.tbls⟩ hok bare fun b hm => ?_
  have hn : n0 ≤ b := of_decide_eq_true (List.mem_filter.mp hm).2
  refine ⟨.inr (Nat.le_trans Y.s0 hn), fun z => ?_, fun x c e z => ?_, fun p hp z => ?_⟩
  · have := Y.loc
    rw [← z] at this
    exact absurd (Nat.lt_of_lt_of_le this hn) (Nat.lt_irrefl _)
  · have := Y.cell x c e
    rw [z] at this
    exact absurd (Nat.lt_of_lt_of_le this hn) (Nat.lt_irrefl _)
  · have := Y.pin p hp
    rw [z] at this
    exact absurd (Nat.lt_of_lt_of_le this hn) (Nat.lt_irrefl _)
/-- a generator's own objects as the walker sees them -/
theorem fp_ok {X : Cx} {pins : List (Addr × Obj)} {n0 : Nat} (Y : Young X pins n0) (hfs : ∀ b ∈ frs X.stack, b < n0) (hst : X.stack = X.outer ∨ X.stack = X.env :: X.outer) {H : Hp} {b : Addr} (hn : n0 ≤ b) (h : H b = none) : FpOk X pins H b := by
  refine ⟨h, fun z => ?_, fun hm => ?_, .inr (Nat.le_trans Y.s0 hn), fun x c e z => ?_, fun p hp z => ?_⟩
  · have := Y.loc
    rw [← z] at this
    exact absurd (Nat.lt_of_lt_of_le this hn) (Nat.lt_irrefl _)
  · have hm2 : b ∈ frs X.stack := by
      rcases hst with e | e
      · rw [e]; exact hm
      · rw [e]
        unfold frs
        rw [List.filterMap_cons]
        cases X.env.frame with
        | none => exact hm
        | some L => exact List.mem_cons_of_mem _ hm
    exact absurd (Nat.lt_of_lt_of_le (hfs b hm2) hn) (Nat.lt_irrefl _)
  · have := Y.cell x c e
    rw [z] at this
    exact absurd (Nat.lt_of_lt_of_le this hn) (Nat.lt_irrefl _)
  · have := Y.pin p hp
    rw [z] at this
    exact absurd (Nat.lt_of_lt_of_le this hn) (Nat.lt_irrefl _)

/-- what the next item brings -/
def NxQ (G : GD) (a : Addr) (g : Nat) (go : Obj) (j : Nat) (r : Option Value) (s : Shared) (H : Hp) : Nat → Prop
  | 0 => r = none
  | n + 1 => ∃ v x fp gp gs, r = some v ∧ RelV x v ∧ G.it j x H ∧ a ∈ fp ∧ LvAt G a g go n (j + 1) fp gp gs s H
section
variable {X : Cx} {pins : List (Addr × Obj)} {σ : L2.St} {H : Hp} {s : Shared} {B : Around} {E : Value → Shared → Prop} {N : List Str} {env : Env} {n0 g n j len : Nat} {a : Addr} {go : Obj} {it : Nat → V → Hp → Prop} {fp : List Addr} {gp : List Nat} {gs : GenState}
abbrev gOf (X : Cx) (N : List Str) (env : Env) (n0 : Nat) (a : Addr) (go : Obj) (len : Nat) (it : Nat → V → Hp → Prop) (A : Around) : GD := mkG X.prog X.w X.K X.mg X.base X.stack N env n0 a go len it A
theorem next_inv (hB : B.handled = none) (hd : B.depth < recursionLimit) (hf : B.frames = some X.stack) (ok : (gOf X N env n0 a go len it B.in1).Ok) (I : Inv X pins σ H s) (Y : Young X pins n0)
    (L : LvAt (gOf X N env n0 a go len it B.in1) a g go n j fp gp gs s H) (ha : a ∈ fp) :
    wpAny (model X.prog X.w) B (pyNext (.ref a)) (fun r s1 => ∃ H1, Inv X pins σ H1 s1 ∧ Same H H1 ∧ NxQ (gOf X N env n0 a go len it B.in1) a g go j r s1 H1 n) E s := by
  have e0 : (gOf X N env n0 a go len it B.in1).E0 s H := let e := I.env0; ⟨hf, e.mod, e.bs, e.bsz, e.funs, e.frf, e.hok, e.bare⟩
  have hgs : g < s.gens.size := (Array.getElem?_eq_some_iff.mp L.gens).1
  have q := L.lv s H ⟨hgs, e0, Kp.refl H, fun b hb => ⟨fun o e => e, (L.own.at_ b hb).2.1⟩, fun _ _ => rfl⟩
  cases n with
  | zero =>
    refine next1 (Py := fun _ _ _ => False) (Pe := fun s1 => ∃ H1, Rn (gOf X N env n0 a go len it B.in1) s H s1 H1) hB I.nolimit hd (L.go_.gen L.at_) L.gens (q.mono fun e s' h => ?_) (fun v s1 gs' _ _ h => h.elim) fun s1 h h' hk => ?_
    · cases e with
      | ret r => exact h
      | susp v g0 l k c p fs => exact h
    · obtain ⟨H1, R⟩ := h
      have I1 := Inv.ran I Y (s1 := s1.setGen g .finished) R.os (allBare_setGen R.bare rfl) R.un R.hok
      exact ⟨H1, I1.kept (t' := s1.toks) hk, R.same, rfl⟩
  | succ m =>
    refine next1 (Py := fun v s1 gs' => ∃ H1 x fp gp, Rn (gOf X N env n0 a go len it B.in1) s H s1 H1 ∧ RelV x v ∧ it j x H1 ∧ FpG (gOf X N env n0 a go len it B.in1) fp s1 H1 ∧ (∀ g' ∈ gp, g < g' ∧ g' < s1.gens.size) ∧ Lv (gOf X N env n0 a go len it B.in1) g m (j + 1) fp gp gs' s1 H1) (Pe := fun _ => False)
      hB I.nolimit hd (L.go_.gen L.at_) L.gens (q.mono fun e s' h => ?_) (fun v s1 gs' hb hz h => ?_) fun s1 h h' hk => h.elim
    · cases e with
      | ret r => exact h.elim
      | susp v g0 l k c p fs =>
        obtain ⟨H1, x, fp, gp, h1, h2, h3, h4, h5, h6⟩ := h
        exact ⟨H1, x, fp, gp, h1, h2, h3, h4, h5, h6⟩
    · obtain ⟨H1, x, fp', gp', R, rx, hit, F, hgp, hlv⟩ := h
      have I1 := Inv.ran I Y (s1 := s1.setGen g gs') R.os (allBare_setGen R.bare hb) R.un R.hok
      have ga : (s1.setGen g gs').gens[g]? = some gs' := setGen_at (Nat.lt_of_lt_of_le hgs hz)
      refine ⟨H1, I1, R.same, v, x, fp', gp', gs', rfl, rx, hit, F.pn _ (List.mem_singleton.mpr rfl), ⟨(R.pn _ (List.mem_singleton.mpr rfl)).1, L.go_, ga, ⟨F.loc, F.pn, F.at_⟩, fun g' hm => ⟨(hgp g' hm).1, by rw [GenW.setGen_size]; exact (hgp g' hm).2⟩, fun sr Hr r => ?_⟩⟩
      refine hlv sr Hr ⟨r.gz, r.env, r.kp, r.fp, fun g' hm => (r.gp g' hm).trans ?_⟩
      show (s1.gens.setIfInBounds g gs')[g']? = s1.gens[g']?
      exact Array.getElem?_setIfInBounds_ne (Nat.ne_of_lt (hgp g' hm).1)
end

/-! ### expressions that give a generator -/
abbrev TGn := L2.St → Hp → (Nat → (Nat → V → Hp → Prop) → Hp → Prop) → Prop
/-- e's value is a generator that has not begun -/
structure PGn (X : Cx) (k : Nat) (e : Expr) (t : TGn) : Prop where
  run : ∀ (pins : List (Addr × Obj)) (s : Shared) (σ : L2.St) (H : Hp) (R : Nat → (Nat → V → Hp → Prop) → Hp → Prop), Inv X pins σ H s → t σ H R → wpAny (model X.prog X.w) X.A (eval e X.env)
    (fun u s' => ∃ H1 sc len it, s.gens.size ≤ sc.gens.size ∧ Inv X pins σ H1 sc ∧ GMd X.prog X.w X.K X.mg X.base k X.stack H1 sc len it u s' ∧ R len it H1) X.xe s
theorem PGn.or {X : Cx} {k : Nat} {e : Expr} {t t' : TGn} (h : PGn X k e t) (h' : PGn X k e t') : PGn X k e (fun σ H R => t σ H R ∨ t' σ H R) :=
  ⟨fun pins s σ H R I q => q.elim (fun q => h.run pins s σ H R I q) fun q => h'.run pins s σ H R I q⟩
section
variable {X : Cx} {k : Nat} {f C : Addr} {fd : FuncData} {ps : List Str} {sp : SpY} {dvs : List V} {ds : List Value} {x m : Str} {p pos apos : Pos} {o : Expr} {ta : TE}
theorem run_yfn {pins : List (Addr × Obj)} {σ : L2.St} {H : Hp} {s : Shared} {us : List Value} {vs : List V} {R : Nat → (Nat → V → Hp → Prop) → Hp → Prop} {E1 : Value → Shared → Prop} (F : YFn X.prog X.w X.K X.mg X.base k f fd ps sp) (hr : Room k X.A) (hb : Binds X.K fd ps ds) (hd : Vals dvs ds)
    (I : Inv X pins σ H s) (r : Vals vs us) (h : ∃ len it, sp (vs ++ dvs) H len it ∧ R len it H) {n : Nat} (hn : n ≤ s.gens.size) :
    wpAny (model X.prog X.w) X.A (call (.ref f) us) (fun u s' => ∃ H1 sc len it, n ≤ sc.gens.size ∧ Inv X pins σ H1 sc ∧ GMd X.prog X.w X.K X.mg X.base k X.stack H1 sc len it u s' ∧ R len it H1) E1 s := by
  obtain ⟨len, it, h, hR⟩ := h
  have r2 : Vals (vs ++ dvs) (us ++ ds) := r.append hd
  have hl2 : (us ++ ds).length = ps.length := by rw [← r2.length]; exact F.len _ _ _ _ h
  refine wpAny_call (codeAny_mono (F.run X.A X.stack s H ⟨us, []⟩ (us ++ ds) (vs ++ dvs) len it hr I.env0 (hb s us I.kIn hl2) r2 h) fun r s' hq => ?_)
  cases r with
  | error e => exact False.elim hq
  | ok fl =>
    cases fl with
    | ret u => exact ⟨H, s, len, it, hn, I, hq, hR⟩
    | next => exact False.elim hq
    | brk => exact False.elim hq
    | cont => exact False.elim hq
def tMethY (C : Addr) (m : Str) (sp : SpY) (dvs : List V) (ta : TE) (t : TA) : TGn := fun σ H R => ta σ H fun x H1 => ∃ a dx fs, x = .ref a ∧ H1 a = some (.ins C dx fs) ∧ fs.lookup m = none ∧
  t σ H1 fun vs H2 => ∃ len it, sp (x :: (vs ++ dvs)) H2 len it ∧ R len it H2
theorem pg_meth0 {pl : Sem Bool} (he : PE X o ta) (c : Cls X.K C) (hm : Meth X.K C m f) (F : YFn X.prog X.w X.K X.mg X.base k f fd ps sp) (hr : Room k X.A) (hb : Binds X.K fd ps ds) (hd : Vals dvs ds)
    (ht : eval (.Call (.Attribute o m apos) [] [] pos) X.env = (do
      let ov ← eval o X.env
      standAt apos.atName
      let (f, first) ← holding [ov] (getMethod ov m pl)
      callWith pos f first (backTo pos (starEach [] X.env)) (backToKw pos (keywordEach [] X.env))) := by rfl) : PGn X k (.Call (.Attribute o m apos) [] [] pos) (tMethY C m sp dvs ta tNil) := by
  refine ⟨fun pins s σ H R I h => ?_⟩
  refine PySem.W.methodCall_KW (pl := pl) (thz (n := s.gens.size) (Nat.le_refl _) (he.run pins s σ H _ I h) fun u s1 ⟨x, H1, I1, rx, a, dx, fs, ex, ea, l, q⟩ hz => ?_) ht
  subst ex
  obtain rfl : u = Value.ref a := rx
  refine getmeth_ok I1 ea c hm l ?_
  exact PySem.W.callWith_K0 (first := [.ref a]) I1.kIn hm.kp (run_yfn (us := [.ref a]) (vs := [.ref a]) F hr hb hd I1 (.cons rfl .nil) q hz)
theorem pg_meth {pl : Sem Bool} {e : Expr} {es : List Expr} {t : TA} (he : PE X o ta) (c : Cls X.K C) (hm : Meth X.K C m f) (F : YFn X.prog X.w X.K X.mg X.base k f fd ps sp) (hr : Room k X.A) (hb : Binds X.K fd ps ds) (hd : Vals dvs ds) (ha : PA X (e :: es) t)
    (hst : starEach (e :: es) X.env = (false, eval e X.env) :: starEach es X.env := by rfl) (hpl : (backTo pos (starEach es X.env)).any (·.1) = false := by rfl)
    (ht : eval (.Call (.Attribute o m apos) (e :: es) [] pos) X.env = (do
      let ov ← eval o X.env
      standAt apos.atName
      let (f, first) ← holding [ov] (getMethod ov m pl)
      callWith pos f first (backTo pos (starEach (e :: es) X.env)) (backToKw pos (keywordEach [] X.env))) := by rfl) : PGn X k (.Call (.Attribute o m apos) (e :: es) [] pos) (tMethY C m sp dvs ta t) := by
  refine ⟨fun pins s σ H R I h => ?_⟩
  refine PySem.W.methodCall_KW (pl := pl) (thz (n := s.gens.size) (Nat.le_refl _) (he.run pins s σ H _ I h) fun u s1 ⟨x, H1, I1, rx, a, dx, fs, ex, ea, l, q⟩ hz => ?_) ht
  subst ex
  obtain rfl : u = Value.ref a := rx
  refine getmeth_ok I1 ea c hm l ?_
  refine PySem.W.callWith_K (first := [.ref a]) (h₀ := X.base) I.ok.mod.kin hm.kp (thz (n := s.gens.size) hz (ha.run pos pins s1 σ H1 _ I1 q) fun us s2 ⟨vs, H2, I2, r, q2⟩ hz2 => ⟨I2.kIn, ?_⟩) hst hpl
  exact run_yfn (us := .ref a :: us) (vs := .ref a :: vs) F hr hb hd I2 (.cons rfl r) q2 hz2
end
/-- made: the walker's view -/
theorem made_inv {X : Cx} {pins : List (Addr × Obj)} {σ : L2.St} {H : Hp} {k len : Nat} {it : Nat → V → Hp → Prop} {sc s : Shared} {u : Value} (I : Inv X pins σ H sc) (h : GMd X.prog X.w X.K X.mg X.base k X.stack H sc len it u s) :
    Inv X pins σ H s ∧ ∃ N env a g go fp gs, u = .ref a ∧ a ∈ fp ∧ sc.gens.size ≤ g ∧ Young X pins sc.heap.objs.size ∧ ∀ A : Around, Room k A → A.frames = some X.stack → (gOf X N env sc.heap.objs.size a go len it A).Ok ∧ LvAt (gOf X N env sc.heap.objs.size a go len it A) a g go len 0 fp [] gs s H := by
  obtain ⟨h1, h2, h3, N, env, a, g, go, fp, gs, h4, h5, h5b, h6⟩ := h
  exact ⟨I.call' (ch := []) h1 (Un.kept h3) (I.hok.kept h3) h2 fun b hb => by simp at hb, N, env, a, g, go, fp, gs, h4, h5, h5b, young I, h6⟩

/-! ### for, left in the first turn -/
def tForG1 (t : TGn) (gg : TG) (tb : TS) : TS := fun D σ H => t σ H fun len it H1 => (len = 0 → ∀ H2, Same H1 H2 → D.nx σ H2) ∧
  (0 < len → ∀ x H2, Same H1 H2 → it 0 x H2 → gg x σ H2 fun σ2 H3 => tb { D with nx := fun _ _ => False, ct := fun _ _ => False, bk := D.nx } σ2 H3)
theorem go_gen {M : Model} {A : Around} {E : Value → Shared → Prop} {s : Shared} {tg : Expr} {it : Addr} {u : Value} {o : Obj} {g : Nat} {Q : Unit → Shared → Prop} (ho : s.heap.get? it = some o) (hg : GenO o g) (hQ : Q () s) : wpAny M A (letOwnedTupleGo tg (.ref it) u) Q E s := by
  obtain ⟨nm, qn, d⟩ := hg.data
  exact go_of ho hg.cls d (by decide) hQ
theorem ps_forG1 {X : Cx} {k : Nat} {tg iter : Expr} {body : List Stmt} {t : TGn} {gg : TG} {tb : TS} {pos : Pos} (hp : PassesOwn (model X.prog X.w) X.A X.env X.xe) (hr : Room (k + 1) X.A) (hi : PGn X k iter t) (hg : PG X tg gg) (hb : PSs X body tb)
    (hs : ∀ x, foldedSetIterable iter X.env x = pure x := by intro _; rfl) : PS X (.For tg iter body [] pos) (tForG1 t gg tb) := by
  refine ⟨fun pins s σ H D I h => ?_⟩
  refine wpAny_For (thn (hi.run pins s σ H _ I h) fun v s1 h1 => ?_) hs
  obtain ⟨H1, sc, len, it, _, I0, M, h0, hpos⟩ := h1
  obtain ⟨I1, N, env, a, g, go, fp, gs, rfl, hafp, _, Y, hA⟩ := made_inv I0 M
  obtain ⟨ok, L⟩ := hA X.A.in1 hr.in1 I1.ok.frames
  refine wpAny_pyIter_gen (L.go_.gen L.at_) ?_
  refine codeAny_forLoop_any (fun n s' => n = 0 ∧ s' = s1) ?_ 0 ⟨rfl, rfl⟩
  rintro n s3 ⟨rfl, rfl⟩
  refine wpAny_passesOwn hp (thn (next_inv hr.hd hr.depth I1.ok.frames ok I1 Y L hafp) fun r s4 ⟨H2, I2, sm, q⟩ => ?_)
  cases len with
  | zero =>
    obtain rfl : r = none := q
    exact wpAny_execs_nil ⟨σ, H2, I2, h0 rfl H2 sm⟩
  | succ m =>
    obtain ⟨u, x, fp', gp', gs', rfl, rx, hit, ha', L'⟩ := q
    refine wpAny_passesOwn hp (go_gen L'.at_ L'.go_ ?_)
    refine wpAny_passesOwn hp (thn (hg.run _ s4 σ H2 x u _ I2 rx (hpos (Nat.succ_pos m) x H2 sm hit)) fun _ s6 ⟨σ6, H6, I6, q6⟩ => ?_)
    refine wpAny_passesOwn hp (thn (hb.run _ s6 σ6 H6 _ I6 q6) fun f s7 q7 => ?_)
    cases f with
    | next => obtain ⟨_, _, _, z⟩ := q7; exact z.elim
    | cont => obtain ⟨_, _, _, z⟩ := q7; exact z.elim
    | brk => exact q7
    | ret v => exact q7
end GF
end

/-! ## G9 -/
section
set_option Elab.async false
set_option linter.all false
set_option maxRecDepth 100000
set_option maxHeartbeats 4000000
namespace GF
open PySem PySem.Spec PyProof.Rows GenW L2

/-- behind the store of a plain local -/
theorem inv_store {X : Cx} {pins : List (Addr × Obj)} {σ : L2.St} {H : Hp} {s : Shared} {i tk : Nat} {x : Str} {v : V} {u : Value} {m : Str → Option Value} {h' : Heap} (I : Inv X pins σ H s) (hN : X.N.Nodup) (hi : X.N[i]? = some x) (hk : X.env.kindOf x = some .local) (r : RelV v u)
    (hn : s.heap.Ns X.env.locals m) (hl : ∀ (i : Nat) (x : Str) (v : V), X.N[i]? = some x → σ[i]? = some (some v) → Vis X.env.scope x → ∃ u, RelV v u ∧ Look X.env s.heap m x u)
    (hn' : h'.Ns X.env.locals (fun y => if y = x then some u else m y)) (hs : Heap.SameBut X.env.locals s.heap h') : Inv X pins (σ.set i (some v)) H { s with heap := h', toks := tk } := by
  have cne := I.cne
  obtain ⟨oL, _, _, hoL, _⟩ := id hn
  have hiσ : i < σ.length := by rw [I.len]; exact (List.getElem?_eq_some_iff.mp hi).1
  refine ⟨I.ok, I.os, I.bare, ⟨fun b o e n hb hx => ?_, fun b o e n hb hx => ?_, I.base.free, fun b o e hx => ?_, I.base.tups, I.base.frzs, I.base.tbls⟩, ⟨_, hn', fun j y w e1 e2 e3 => ?_⟩, fun y c e => ?_, I.free, I.freeC, fun p hp => ?_, fun b ob e => ?_, by simpa using I.len⟩
  · exact (hs.2 b (Nat.ne_of_lt (Nat.lt_of_lt_of_le (Heap.lt_size e) I.ok.above))).trans (I.base.keep b o e n hb hx)
  · obtain ⟨sl, e1⟩ := I.base.slot b o e n hb hx
    exact ⟨sl, (hs.2 b (Nat.ne_of_lt (Nat.lt_of_lt_of_le (Heap.lt_size e) I.ok.above))).trans e1⟩
  · obtain ⟨o', e1⟩ := I.base.there b o e hx
    exact ⟨o', (hs.2 b (Nat.ne_of_lt (Nat.lt_of_lt_of_le (Heap.lt_size e) I.ok.above))).trans e1⟩
  · by_cases hj : j = i
    · subst hj
      rw [hi] at e1; cases e1
      rw [List.getElem?_set_self hiσ] at e2
      cases e2
      exact ⟨u, r, .inl ⟨hk, by simp⟩⟩
    · rw [List.getElem?_set_ne (Ne.symm hj)] at e2
      obtain ⟨u', r', q⟩ := hl j y w e1 e2 e3
      refine ⟨u', r', ?_⟩
      rcases q with ⟨k, e⟩ | ⟨k, c, e, z⟩
      · have ny : y ≠ x := fun e => hj (nodup_ix hN e1 (e ▸ hi))
        exact .inl ⟨k, by simp [ny, e]⟩
      · exact .inr ⟨k, c, e, z.sameBut hs (cne y c e)⟩
  · obtain ⟨w', z⟩ := I.cell y c e
    exact ⟨w', z.sameBut hs (cne y c e)⟩
  · obtain ⟨e, n, ne, nf, d⟩ := I.pin p hp
    exact ⟨(hs.2 p.1 ne).trans e, n, ne, nf, d⟩
  · refine (I.hok b ob e).stay (fun c w' hc q => (hs.2 c ?_).trans q) (fun _ q => q) fun _ _ q => q
    intro z
    rcases hc with hc | hc
    · rw [← hc, z, I.free] at e; cases e
    · rw [z, I.free] at hc; cases hc

/-- a pair of two plain locals -/
theorem tup_names {X : Cx} {pins : List (Addr × Obj)} {σ : L2.St} {H : Hp} {s : Shared} {i1 i2 kt : Nat} {x1 x2 : Str} {v1 v2 : V} {p1 p2 pt : Pos} {A : Around} {E : Value → Shared → Prop} {Q : Value → Shared → Prop} (I : Inv X pins σ H s) (h1 : X.N[i1]? = some x1) (h2 : X.N[i2]? = some x2)
    (l1 : X.env.kindOf x1 = some .local) (l2 : X.env.kindOf x2 = some .local) (e1 : σ[i1]? = some (some v1)) (e2 : σ[i2]? = some (some v2)) (d1 : (x1 == ("__debug__" : Str)) = false) (d2 : (x2 == ("__debug__" : Str)) = false)
    (hQ : ∀ h' : Heap, Inv X pins σ (upd H s.heap.objs.size (.tup [v1, v2])) { s with heap := h' } → (∀ b o, s.heap.get? b = some o → h'.get? b = some o) → H s.heap.objs.size = none → Q (.ref s.heap.objs.size) { s with heap := h' }) : wpAny (model X.prog X.w) A (eval (.Tuple [.Name x1 p1, .Name x2 p2] kt pt) X.env) Q E s := by
  obtain ⟨m, hn, hl⟩ := I.loc
  obtain ⟨u1, r1, q1⟩ := hl i1 x1 v1 h1 e1 (.inl l1)
  obtain ⟨u2, r2, q2⟩ := hl i2 x2 v2 h2 e2 (.inl l2)
  have m1 : m x1 = some u1 := by
    rcases q1 with ⟨_, z⟩ | ⟨z, _⟩
    · exact z
    · rw [l1] at z; rcases z with z | z <;> cases z
  have m2 : m x2 = some u2 := by
    rcases q2 with ⟨_, z⟩ | ⟨z, _⟩
    · exact z
    · rw [l2] at z; rcases z with z | z <;> cases z
  refine wpAny_Tuple_spliced ?_
  show wpAny _ _ (spliced ((false, eval (.Name x1 p1) X.env) :: (false, eval (.Name x2 p2) X.env) :: [])) _ _ s
  refine Calls.spliced_cons (wpAny_Name (wpAny_loadName_local I.ok.kind l1 hn m1 ?_) d1)
  refine Calls.spliced_cons (wpAny_Name (wpAny_loadName_local I.ok.kind l2 hn m2 ?_) d2)
  refine Calls.spliced_nil ⟨by show 2 ≤ sizeLine; decide, ?_⟩
  have kp : ∀ b o, s.heap.get? b = some o → (s.heap.push { cls := .type "tuple", data := .seq [u1, u2].toArray }).get? b = some o := fun b o e => Heap.get?_push_of_some _ e
  refine hQ _ (I.laid (t' := s.toks) kp (Nat.le_refl _) ?_) kp (I.hok.fresh (Nat.le_refl _))
  exact ⟨by show 2 ≤ sizeLine; decide, [u1, u2], .cons r1 (.cons r2 .nil), ⟨_, Heap.get?_push_size _ rfl, rfl, _, rfl⟩⟩

section
variable {G : GD} {g : Nat}
/-- for y in a generator: yield (i, y) -/
def yForY (G : GD) (t : TGn) (ii iy : Nat) : TY := fun D j H0 σ H => ∃ vi, σ[ii]? = some (some vi) ∧ t σ H fun len it H1 => j + len ≤ G.len ∧ Same H0 H1 ∧
  (∀ q x H2 tp, q < len → it q x H2 → H2 tp = none → G.it (j + q) (.ref tp) (upd H2 tp (.tup [vi, x]))) ∧
  ∀ σ' H0' H2, (σ' = σ ∨ ∃ v, σ' = σ.set iy v) → Kp H1 H2 → Same H0' H2 → D.nx (j + len) H0' σ' H2
theorem y_forY {k ii iy kt : Nat} {iter : Expr} {t : TGn} {xi xy : Str} {py p1 p2 pt yp pe pos : Pos} (ok : G.Ok) (hr : Room (k + 1) (G.A.deeper G.env)) (hi : ∀ sr H0, PGn (G.cx sr H0) k iter t) (hN : G.N.Nodup) (h1 : G.N[ii]? = some xi) (h2 : G.N[iy]? = some xy)
    (hne : ii ≠ iy) (l1 : G.env.kindOf xi = some .local) (l2 : G.env.kindOf xy = some .local) (d1 : (xi == ("__debug__" : Str)) = false := by decide) (d2 : (xy == ("__debug__" : Str)) = false := by decide) (hs : ∀ x, foldedSetIterable iter G.env x = pure x := by intro _; rfl) :
    GS1 G g (.For (.Name xy py) iter [.Expr (.Yield (some (.Tuple [.Name xi p1, .Name xy p2] kt pt)) yp) pe] [] pos) (yForY G t ii iy) := by
  refine ⟨fun ip c fs K J gd lv j sr H0 s σ H D g0 hip kk hz I ht => ?_⟩
  obtain ⟨vi, hvi, ht⟩ := ht
  have hin : interactive G.env = false := by simp [interactive, ok.kind]
  have hcls : (G.env.scope.kind == .class || (G.env.scope.kind == .module && G.env.locals != G.env.globals)) = false := by rw [ok.kind]; rfl
  have hy : ∀ v, yieldOut G.env v = yieldValue v := fun v => by simp only [yieldOut, ok.co, Bool.false_eq_true, if_false]
  rw [exec_For]
  refine sg_bindw (wpAny_standAt ?_)
  refine sg_bindw ?_
  rw [g0.over]
  refine GenW.wpAny_gsz (n := g + 1) hz (wpAny_mono ((hi sr H0).run ip s σ H _ I ht) (fun v s1 h1 hz => ?_) fun x s' hx => hx.elim)
  obtain ⟨H1, sc, len, it, hsz, I0, M, hjl, hsm, hit, hnx⟩ := h1
  obtain ⟨I1, N, env, a, gi, go, fp, gs, rfl, hafp, hgi, Y, hA⟩ := made_inv I0 M
  obtain ⟨oki, L⟩ := hA (G.A.deeper G.env).in1 hr.in1 I1.ok.frames
  have gne : g < gi := by omega
  refine sg_bindw (wpAny_of_eq (hs _) ?_)
  refine sg_bindw (wpAny_standAt ?_)
  refine sg_bindw ?_
  rw [g0.over]
  refine wpAny_holding (wpAny_pyIter_gen (L.go_.gen L.at_) ?_)
  refine sg_runOwn fun p => ?_
  have gl := gcd_loop (k := back G.env K J gd lv) (c' := .forLoop (.Name xy py) (.ref a) [.Expr (.Yield (some (.Tuple [.Name xi p1, .Name xy p2] kt pt)) yp) pe] [] G.env) (l := lv []) (kp := []) (p := p) g0 rfl rfl
  have hn0 : G.n0 ≤ sc.heap.objs.size := Nat.le_trans ok.n0L (Nat.le_of_lt Y.loc)
  have loop : ∀ (n q : Nat) (sr : Shared) (H0 : Hp) (σ' : L2.St) (H : Hp) (s : Shared) (fp : List Addr) (gp : List Nat) (gs : GenState), n + q = len → g < s.gens.size → Inv (G.cx sr H0) ip σ' H s →
      LvAt (mkG G.P G.w G.K G.mg G.base (G.env :: G.outer) N env sc.heap.objs.size a go len it (G.A.deeper G.env).in1) a gi go n q fp gp gs s H → a ∈ fp → (σ' = σ ∨ ∃ v, σ' = σ.set iy v) → Kp H1 H → Same H0 H →
      Sg (model G.P G.w) G.A (G.ph g (j + q) sr H0) (.forLoop (.Name xy py) (.ref a) [.Expr (.Yield (some (.Tuple [.Name xi p1, .Name xy p2] kt pt)) yp) pe] [] G.env) ((model G.P G.w).den (.forLoop (.Name xy py) (.ref a) [.Expr (.Yield (some (.Tuple [.Name xi p1, .Name xy p2] kt pt)) yp) pe] [] G.env))
        (.ret (back G.env K J gd lv) none (gd false) (lv []) c p [] :: fs) s := by
    intro n
    induction n with
    | zero =>
      intro q sr H0 σ' H s fp gp gs hq hz I L ha hσ hk hs
      refine sg_forTurn ?_
      rw [gl.over]
      have Y' : Young (G.cx sr H0) ip sc.heap.objs.size := ⟨Y.loc, by show (cutH G.n0 _).objs.size ≤ _; rw [cutH_size]; exact hn0, Y.cell, Y.pin⟩
      refine thz hz (next_inv (X := G.cx sr H0) (B := G.A.deeper G.env) hr.hd hr.depth I.ok.frames oki I Y' L ha) fun r s4 ⟨H2, I2, sm, hr'⟩ hz2 => ?_
      obtain rfl : r = none := hr'
      obtain rfl : q = len := by omega
      exact sg_back .next (kk (j + q) sr H0 .next s4 ⟨hz2, σ', H2, I2, hnx σ' H0 H2 hσ (hk.trans (GF.Same.kp sm)) (hs.trans sm)⟩)
    | succ n ih =>
      intro q sr H0 σ' H s fp gp gs hq hz I L ha hσ hk hs
      refine sg_forTurn ?_
      rw [gl.over]
      have Y' : Young (G.cx sr H0) ip sc.heap.objs.size := ⟨Y.loc, by show (cutH G.n0 _).objs.size ≤ _; rw [cutH_size]; exact hn0, Y.cell, Y.pin⟩
      refine thz hz (next_inv (X := G.cx sr H0) (B := G.A.deeper G.env) hr.hd hr.depth I.ok.frames oki I Y' L ha) fun r s4 ⟨H2, I2, sm, hr'⟩ hz2 => ?_
      obtain ⟨u, x, fp', gp', gs', rfl, rx, hitx, ha', L'⟩ := hr'
      refine go_gen L'.at_ L'.go_ ?_
      obtain ⟨m, hn, hl⟩ := I2.loc
      refine wpAny_assign_Name (wpAny_storeName_local l2 hn (fun h' hn' hsb => ?_) hcls)
      have I5 := inv_store (tk := s4.toks + 1) I2 hN h2 l2 rx hn hl hn' hsb
      have hiσ : iy < σ'.length := by rw [I2.len]; exact (List.getElem?_eq_some_iff.mp h2).1
      have eσ1 : (σ'.set iy (some x))[ii]? = some (some vi) := by
        rw [List.getElem?_set_ne (Ne.symm hne)]
        rcases hσ with e | ⟨v, e⟩
        · rw [e]; exact hvi
        · rw [e, List.getElem?_set_ne (Ne.symm hne)]; exact hvi
      have eσ2 : (σ'.set iy (some x))[iy]? = some (some x) := List.getElem?_set_self hiσ
      have hσ2 : (σ'.set iy (some x) = σ ∨ ∃ v, σ'.set iy (some x) = σ.set iy v) := by
        rcases hσ with e | ⟨v, e⟩
        · exact .inr ⟨some x, by rw [e]⟩
        · exact .inr ⟨some x, by rw [e, List.set_set]⟩
      have fL : ∀ b ∈ fp', b ≠ G.env.locals := fun b hb z => by
        have q1 := (L'.own.at_ b hb).1
        have q2 : G.env.locals < sc.heap.objs.size := Y.loc
        rw [z] at q1
        exact absurd (Nat.lt_of_lt_of_le q2 q1) (Nat.lt_irrefl _)
      intro J'
      rw [execs_cons_wrap, exec_Expr G.env _ pe hin rfl]
      show Sg _ _ _ _ (.at pe fun _ => ((eval (.Tuple [.Name xi p1, .Name xy p2] kt pt) G.env >>= fun v => (standAt yp >>= fun _ => yieldOut G.env v)) >>= fun x => dropValue (.Yield (some (.Tuple [.Name xi p1, .Name xy p2] kt pt)) yp) pe x).wrap _ J' id id) _ _
      simp only [hy]
      refine sg_at ?_
      rw [Sem.bind_eq_wrap', Sem.bind_eq_wrap', Sem.wrap_wrap, Sem.wrap_wrap]
      refine sg_wrap ?_
      refine tup_names (X := G.cx sr H0) I5 h1 h2 l1 l2 eσ1 eσ2 d1 d2 fun h6 I6 k6 f6 => ?_
      refine sg_at (sg_yield gl.split gl.gd gl.guard fun pp => ?_)
      obtain ⟨mm, hm⟩ : ∃ mm, G.len - (j + q) = mm + 1 := ⟨G.len - (j + q) - 1, by omega⟩
      have hm' : mm = G.len - (j + (q + 1)) := by omega
      show Ph G g (G.len - (j + q)) (j + q) sr H0 _ _
      rw [hm]
      have hs2 : Same H0 H2 := hs.trans sm
      have fnew : ∀ b o, s4.heap.get? b = some o → b ≠ h'.objs.size := fun b o e => by
        have q1 := Heap.lt_size e
        have q2 : h'.objs.size = s4.heap.objs.size := hsb.1
        rw [q2]
        exact Nat.ne_of_lt q1
      have sm6 : Same H0 (upd H2 h'.objs.size (.tup [vi, x])) := fun b o e => by rw [upd_ne (ne_of_none (hs2 b o e) f6)]; exact hs2 b o e
      have F := inv_fp ok I6 hip
      refine ⟨upd H2 h'.objs.size (.tup [vi, x]), .ref h'.objs.size, (G.env.locals :: (G.pn ++ ip).map (·.1)) ++ fp', gi :: gp', inv_rn I6 sm6, rfl, hit q x H2 _ (by omega) hitx f6, ⟨List.mem_append_left _ F.loc, fun p hp => List.mem_append_left _ (F.pn p hp), fun b hb => ?_⟩, fun g' hg' => ?_, fun sr' Hr' rs => ?_⟩
      · rcases List.mem_append.mp hb with z | z
        · exact F.at_ b z
        · obtain ⟨q1, q2, o, q3, q4⟩ := L'.own.at_ b z
          refine ⟨Nat.le_trans hn0 q1, ?_, o, k6 b o ((hsb.2 b (fL b z)).trans q3), q4⟩
          rw [upd_ne (fnew b o q3)]
          exact q2
      · rcases List.mem_cons.mp hg' with z | z
        · subst z
          exact ⟨gne, (Array.getElem?_eq_some_iff.mp L'.gens).1⟩
        · exact ⟨Nat.lt_trans gne (L'.ing g' z).1, (L'.ing g' z).2⟩
      · have I7 := inv_again ok I6 rs (fun b hb => List.mem_append_left _ hb) (t := sr'.setGen g .running) ⟨rfl, rfl⟩ (allBare_setGen rs.env.bare rfl)
        have keep : ∀ b ∈ fp', (∀ o, s4.heap.get? b = some o → (sr'.setGen g .running).heap.get? b = some o) ∧ Hr' b = none := fun b hb => by
          have q := rs.fp b (List.mem_append_right _ hb)
          exact ⟨fun o e => q.1 o (k6 b o ((hsb.2 b (fL b hb)).trans e)), q.2⟩
        have hg1 : ∀ g', g' ≠ g → g' ∈ gi :: gp' → (sr'.setGen g .running).gens[g']? = s4.gens[g']? := fun g' hne' hm' => by
          have q := rs.gp g' hm'
          show (sr'.gens.setIfInBounds g .running)[g']? = _
          rw [Array.getElem?_setIfInBounds_ne (Ne.symm hne')]
          exact q
        have kp2 : Kp H2 Hr' := Kp.trans (fun b o e _ => by rw [upd_ne (ne_of_none e f6)]; exact e) rs.kp
        have L7 := L'.move (s' := sr'.setGen g .running) ha' kp2 keep (hg1 gi (Ne.symm (Nat.ne_of_lt gne)) List.mem_cons_self) fun g' hm' => hg1 g' (Ne.symm (Nat.ne_of_lt (Nat.lt_trans gne (L'.ing g' hm').1))) (List.mem_cons_of_mem _ hm')
        rw [hm']
        exact sg_again rfl (ih (q + 1) sr' Hr' (σ'.set iy (some x)) Hr' (sr'.setGen g .running) fp' gp' gs' (by omega) (by rw [GenW.setGen_size]; exact rs.gz) I7 L7 ha' hσ2 ((hk.trans (GF.Same.kp sm)).trans kp2) (fun _ _ z => z))
  exact loop len 0 sr H0 σ H1 _ fp [] gs (by omega) hz I1 L hafp (.inl rfl) (Kp.refl _) hsm
end
end GF
end

/-! ## G10 -/
section
set_option Elab.async false
set_option linter.all false
set_option maxRecDepth 100000
set_option maxHeartbeats 4000000
namespace GF
open PySem PySem.Spec PyProof.Rows GenW L2

/-! ### list(g) -/
section
variable {X : Cx} {pins : List (Addr × Obj)} {σ : L2.St}
theorem kp_lst {H : Hp} {S : Addr} {xs ys : List V} (h : H S = some (.lst xs)) : Kp H (upd H S (.lst ys)) := fun b o e q => by
  by_cases z : b = S
  · subst z
    rw [h] at e
    cases e
    cases q
  · rw [upd_ne z]; exact e
/-- the list at S gets one more -/
theorem inv_push {H : Hp} {s : Shared} {S : Addr} {ys : List V} {x : V} {u : Value} {its : List Value} {n : Nat} (I : Inv X pins σ H s) (hS : H S = some (.lst ys)) (hl : ys.length < sizeLine) (r : Vals ys its) (e : s.heap.get? S = some { cls := .type "list", data := .seq its.toArray n }) (ru : RelV x u) :
    Inv X pins σ (upd H S (.lst (ys ++ [x]))) { s with heap := s.heap.update S (Obj.mapSeq (·.push u)) } := by
  have e2 := Heap.get?_update_self (Obj.mapSeq (·.push u)) e rfl
  refine I.write (t' := s.toks) (e := S) (by rw [hS]; trivial) (.inl rfl) (fun b o hb q => (Heap.get?_update_other _ _ (Ne.symm hb)).trans q) ⟨_, e2⟩ ?_
  have ea : (its ++ [u]).toArray = its.toArray.push u := by simp
  obtain ⟨c, q⟩ : ∃ c, (s.heap.update S (Obj.mapSeq (·.push u))).get? S = some { cls := .type "list", data := .seq (its ++ [u]).toArray c } := by
    rw [ea]
    exact ⟨_, e2⟩
  exact ⟨by rw [List.length_append]; exact hl, its ++ [u], c, r.append (.cons ru .nil), q⟩
theorem drainY {A : Around} (hA : A.handled = none) (hd : A.depth < recursionLimit) (hf : A.frames = some X.stack) {N : List Str} {env : Env} {n0 g len : Nat} {a S : Addr} {go : Obj} {it : Nat → V → Hp → Prop} {res : Value} (ok : (gOf X N env n0 a go len it A.in1.in1).Ok) (Y : Young X pins n0) (hl : len ≤ sizeLine)
    (mono : ∀ i x H H', Kp H H' → it i x H → it i x H') {H1 : Hp} (h1S : H1 S = none) {R : Result → Shared → Prop}
    (hend : ∀ s ys H, Inv X pins σ H s → Same H1 H → H S = some (.lst ys) → ys.length = len → (∀ i x, ys[i]? = some x → it i x H) → R (.ok (.ret res)) s) :
    ∀ (n : Nat) (s : Shared) (H : Hp) (ys : List V) (fp : List Addr) (gp : List Nat) (gs : GenState), Inv X pins σ H s → LvAt (gOf X N env n0 a go len it A.in1.in1) a g go n ys.length fp gp gs s H → a ∈ fp → n + ys.length = len → H S = some (.lst ys) → Same H1 H → (∀ i x, ys[i]? = some x → it i x H) →
      codeAny (model X.prog X.w) A (.builtin "list.extend.loop" ⟨[.ref S, .ref a, res], []⟩) R s := by
  intro n
  induction n with
  | zero =>
    intro s H ys fp gp gs I L ha hn hS hs hi
    refine codeAny_builtin F.entry_extend_loop ?_
    rw [Around.under_plainId F.plain_extend_loop _]
    show wpAny _ A.in1 (pyNext (.ref a) >>= _) _ _ s
    refine wpAny_bind (thn (next_inv (B := A.in1) hA hd hf ok I Y L ha) fun r s1 ⟨H2, I2, sm, q⟩ => ?_)
    obtain rfl : r = none := q
    exact wpAny_pure (hend s1 ys H2 I2 (hs.trans sm) (sm _ _ hS) (by omega) fun i x e => mono i x _ _ (GF.Same.kp sm) (hi i x e))
  | succ n ih =>
    intro s H ys fp gp gs I L ha hn hS hs hi
    refine codeAny_builtin F.entry_extend_loop ?_
    rw [Around.under_plainId F.plain_extend_loop _]
    show wpAny _ A.in1 (pyNext (.ref a) >>= _) _ _ s
    refine wpAny_bind (thn (next_inv (B := A.in1) hA hd hf ok I Y L ha) fun r s1 ⟨H2, I2, sm, q⟩ => ?_)
    obtain ⟨u, x, fp', gp', gs', rfl, rx, hitx, ha', L'⟩ := q
    have hS2 := sm _ _ hS
    obtain ⟨hz, its, cc, rv, eS⟩ := I2.hok S _ hS2
    have hlt : ys.length < sizeLine := by omega
    have hsz : its.toArray.size = ys.length := by simp [rv.length]
    show wpAny _ A.in1 (updateSeq S (·.push u) >>= _) _ _ _
    refine wpAny_bind ?_
    refine wpAny_updateSeq eS rfl (wpAny_pure ⟨plainId_quiet F.plain_extend_loop _, ?_⟩) (by rw [hsz]; exact hz) (by show (its.toArray.push u).size ≤ sizeLine + 1; rw [Array.size_push, hsz]; omega)
    have I3 := inv_push I2 hS2 hlt rv eS rx
    have k3 : Kp H2 (upd H2 S (.lst (ys ++ [x]))) := kp_lst hS2
    have hlen : (ys ++ [x]).length = ys.length + 1 := by simp
    have nS : ∀ b ∈ fp', b ≠ S := fun b hb z => by
      have q := (L'.own.at_ b hb).2.1
      rw [z, hS2] at q
      cases q
    have L3 := L'.move (s' := { s1 with heap := s1.heap.update S (Obj.mapSeq (·.push u)) }) ha' k3 (fun b hb => ⟨fun o e => (Heap.get?_update_other _ _ (Ne.symm (nS b hb))).trans e, by rw [upd_ne (nS b hb)]; exact (L'.own.at_ b hb).2.1⟩) rfl fun g' _ => rfl
    refine ih _ (upd H2 S (.lst (ys ++ [x]))) (ys ++ [x]) fp' gp' gs' I3 (by rw [hlen]; exact L3) ha' (by omega) upd_same (fun b o e => ?_) fun i y e => ?_
    · have ne : b ≠ S := ne_of_none e h1S
      rw [upd_ne ne]
      exact sm _ _ (hs b o e)
    · by_cases hi2 : i < ys.length
      · rw [List.getElem?_append_left hi2] at e
        exact mono i y _ _ ((GF.Same.kp sm).trans k3) (hi i y e)
      · rw [List.getElem?_append_right (by omega)] at e
        have hi3 : i - ys.length = 0 := by
          cases q : i - ys.length with
          | zero => rfl
          | succ m => rw [q] at e; simp at e
        rw [hi3] at e
        have e1 : x = y := by simpa using e
        have e2 : i = ys.length := by omega
        subst e1 e2
        exact mono _ _ _ _ k3 hitx
end
def tListY (t : TGn) : TE := fun σ H Q => t σ H fun len it H1 => len ≤ sizeLine ∧ (∀ i x H H', Kp H H' → it i x H → it i x H') ∧ ∀ p ys H2, H1 p = none → Same H1 H2 → H2 p = some (.lst ys) → ys.length = len → (∀ i x, ys[i]? = some x → it i x H2) → Q (.ref p) H2
theorem pe_listY {X : Cx} {k : Nat} {e : Expr} {t : TGn} {nm : Str} {p pos : Pos} (h : PGn X k e t) (hr : Room (k + 3) X.A) (hg : Gl X nm) (hmg : X.mg nm = none) (hv : bootBuiltins nm = some (.type "list")) (hnm : nm ≠ "__name__" := by decide) (hdb : (nm == ("__debug__" : Str)) = false := by decide)
    (he : starEach [e] X.env = (false, eval e X.env) :: starEach [] X.env := by rfl) : PE X (.Call (.Name nm p) [e] [] pos) (tListY t) := by
  refine ⟨fun pins s σ H Q I hq => ?_⟩
  refine wpAny_Call_Name_kw (ld_blt I hg hmg hv ?_ hnm hdb)
  refine PyProof.Rows.callWith_type1 ?_ he rfl
  rw [he]
  show wpAny _ _ (spliced ((false, eval e X.env) :: backTo pos (starEach [] X.env))) _ _ s
  refine Calls.spliced_cons (thn (h.run pins s σ H _ I hq) fun u s1 ⟨H1, sc, len, it, _, I0, M, hlen, mono, hpos⟩ => ?_)
  refine Calls.spliced_nil ?_
  obtain ⟨I1, N, env, a, g, go, fp, gs, rfl, hafp, _, Y, hA⟩ := made_inv I0 M
  have hr3 : Room k X.A.in1.in1.in1 := (hr.in1 : Room (k + 2) X.A.in1).in1.in1
  obtain ⟨ok, L⟩ := hA X.A.in1.in1.in1 hr3 I1.ok.frames
  have hSa : s1.heap.objs.size ≠ a := Nat.ne_of_gt (Heap.lt_size L.at_)
  refine callType_codes (Q₁ := fun obj s2 => obj = .ref s1.heap.objs.size ∧ s2 = { s1 with heap := s1.heap.push { cls := .type "list", data := .seq #[] } }) F.called_list (F.typeCall_list_1 _) F.entry_list_init
    (code_list_new _ ⟨rfl, rfl⟩) fun obj s2 h2 => ?_
  obtain ⟨rfl, rfl⟩ := h2
  have hS : (s1.heap.push { cls := .type "list", data := .seq #[] }).get? s1.heap.objs.size = some { cls := .type "list", data := .seq #[] } := Heap.get?_push_size _ rfl
  refine ⟨⟨_, hS, rfl⟩, F.args_list_init_2 _ _, ?_⟩
  show wpAny _ X.A.in1.in1 (do let old ← Builtin.List.listItems (.ref s1.heap.objs.size); Builtin.List.listUpdate (.ref s1.heap.objs.size) (fun _ => #[]); letGo old.toList.reverse; Builtin.List.listExtendWith (.ref s1.heap.objs.size) (.ref a) .none) _ _ _
  refine wpAny_bind ?_
  unfold Builtin.List.listItems
  refine wpAny_bind (wpAny_seqItems hS rfl (wpAny_pure ?_))
  show wpAny _ X.A.in1.in1 (updateSeq s1.heap.objs.size (fun _ => #[]) >>= fun _ => letGo (#[] : Array Value).toList.reverse >>= fun _ => Builtin.List.listExtendWith (.ref s1.heap.objs.size) (.ref a) .none) _ _ _
  refine wpAny_bind (wpAny_updateSeq hS rfl ?_)
  have hS2 := Heap.get?_update_self (Obj.mapSeq (fun _ => (#[] : Array Value))) hS rfl
  refine wpAny_bind (wpAny_letGo ?_)
  unfold Builtin.List.listExtendWith
  have up : ∀ (h : Heap) (f : Obj → Obj), (∀ b o, s1.heap.get? b = some o → h.get? b = some o) → ∀ b o, s1.heap.get? b = some o → (h.update s1.heap.objs.size f).get? b = some o := fun h f q b o e =>
    (Heap.get?_update_other _ _ (Ne.symm (Nat.ne_of_lt (Heap.lt_size e)))).trans (q b o e)
  have k1 : ∀ b o, s1.heap.get? b = some o → (s1.heap.push { cls := .type "list", data := .seq #[] }).get? b = some o := fun b o e => Heap.get?_push_of_some _ e
  have k2 := up _ (Obj.mapSeq (fun _ => (#[] : Array Value))) k1
  have hgen : s1.heap.IsGen a g := L.go_.gen L.at_
  have gty : ∀ {h : Heap}, (∀ b o, s1.heap.get? b = some o → h.get? b = some o) → h.IsGen a g := fun {h} q => hgen.keeps q
  refine wpAny_bind (wpAny_typeOf (Heap.IsGen.typeIs (s := { s1 with heap := _ }) (gty k2)) ?_)
  have h1 : Builtin.List.listSameRef (.ref s1.heap.objs.size) (.ref a) = false := by simp [Builtin.List.listSameRef, hSa]
  have h2 : (Value.type "generator" == Value.type "list") = false := by decide
  have h3 : (Value.type "generator" == Value.type "tuple") = false := by decide
  simp only [h1, h2, h3, Bool.or_false, Bool.false_eq_true, if_false]
  refine wpAny_bind (wpAny_pyIter_gen (s := { s1 with heap := _ }) (gty k2) ?_)
  refine wpAny_bind (wpAny_holding ?_)
  unfold Builtin.List.listLengthHint
  refine wpAny_bind (wpAny_specialOf (Heap.IsGen.typeIs (s := { s1 with heap := _ }) (gty k2)) F.gen_no_len ?_)
  show wpAny _ X.A.in1.in1 (specialOf (Value.ref a) (Str.ofString "__length_hint__") >>= _) _ _ _
  refine wpAny_bind (wpAny_specialOf (Heap.IsGen.typeIs (s := { s1 with heap := _ }) (gty k2)) F.gen_no_hint ?_)
  refine wpAny_pure ?_
  show wpAny _ X.A.in1.in1 (rule "list.extend.makes-room" >>= fun _ => Builtin.List.listTouch (.ref s1.heap.objs.size) >>= fun _ =>
    again (.builtin "list.extend.loop" ⟨[.ref s1.heap.objs.size, .ref a, .none], []⟩)) _ _ _
  refine wpAny_bind (wpAny_rule ?_)
  refine wpAny_bind ?_
  show wpAny _ X.A.in1.in1 (updateSeq s1.heap.objs.size (·.push .none) >>= fun _ => updateSeq s1.heap.objs.size (·.pop)) _ _ _
  refine wpAny_bind (wpAny_updateSeq hS2 rfl ?_)
  have hS3 := Heap.get?_update_self (Obj.mapSeq (·.push Value.none)) hS2 rfl
  refine wpAny_updateSeq (hz := by seq_fits) hS3 rfl ?_
  have hS4 := Heap.get?_update_self (Obj.mapSeq (·.pop)) hS3 rfl
  have k4 := up _ (Obj.mapSeq (·.pop)) (up _ (Obj.mapSeq (·.push Value.none)) k2)
  refine wpAny_pure ⟨plainId_quiet F.plain_extend_loop _, ?_⟩
  have fS : H1 s1.heap.objs.size = none := I1.hok.fresh (Nat.le_refl _)
  have I4 := I1.laid (t' := s1.toks) (a := s1.heap.objs.size) (o := .lst []) k4 (Nat.le_refl _) ⟨Nat.zero_le _, [], _, .nil, hS4⟩
  have sm4 : Same H1 (upd H1 s1.heap.objs.size (.lst [])) := fun b o e => by rw [upd_ne (ne_of_none e fS)]; exact e
  have nS : ∀ b ∈ fp, b ≠ s1.heap.objs.size := fun b hb z => by
    obtain ⟨_, _, o, e, _⟩ := L.own.at_ b hb
    have q := Heap.lt_size e
    rw [z] at q
    exact absurd q (Nat.lt_irrefl _)
  refine drainY (A := X.A.in1) (σ := σ) (H1 := H1) hr.hd hr.depth I1.ok.frames ok Y hlen mono fS (fun s' ys H' I' sm hS' hl hi => ⟨rfl, ?_⟩) len _ _ [] fp [] gs I4
    (L.move hafp (GF.Same.kp sm4) (fun b hb => ⟨fun o e => k4 b o e, by rw [upd_ne (nS b hb)]; exact (L.own.at_ b hb).2.1⟩) rfl fun g' hm => by simp at hm) hafp (by simp) upd_same sm4 fun i x e => by simp at e
  exact ⟨.ref s1.heap.objs.size, H', I', rfl, hpos _ ys H' fS sm hS' hl hi⟩
end GF
end

/-! ## G11 -/
section
set_option Elab.async false
set_option linter.all false
set_option maxRecDepth 100000
set_option maxHeartbeats 4000000
namespace GF
open PySem PySem.Spec PyProof.Rows GenW L2

/-! ### for x in a generator: found.append(x), if len(found) == many: return found -/
section
variable {X : Cx} {pins : List (Addr × Obj)} {σ : L2.St} {H : Hp} {s : Shared} {A : Around} {E : Value → Shared → Prop}
/-- a local's value, the state as it is -/
theorem nm_at {i : Nat} {x : Str} {v : V} {p : Pos} {Q : Value → Shared → Prop} (I : Inv X pins σ H s) (h : X.N[i]? = some x) (l : X.env.kindOf x = some .local) (e : σ[i]? = some (some v)) (d : (x == ("__debug__" : Str)) = false) (hQ : ∀ u, RelV v u → Q u s) :
    wpAny (model X.prog X.w) A (eval (.Name x p) X.env) Q E s := by
  obtain ⟨m, hn, hl⟩ := I.loc
  obtain ⟨u, r, q⟩ := hl i x v h e (.inl l)
  rcases q with ⟨_, z⟩ | ⟨z, _⟩
  · exact wpAny_Name (wpAny_loadName_local I.ok.kind l hn z (hQ u r)) d
  · rw [l] at z; rcases z with z | z <;> cases z
theorem app_at {i1 i2 : Nat} {x1 x2 : Str} {l : Addr} {ys : List V} {v : V} {p1 p2 pa pc pos : Pos} {Q : Flow → Shared → Prop} (hcalm : interactive X.env = false) (I : Inv X pins σ H s) (h1 : X.N[i1]? = some x1) (h2 : X.N[i2]? = some x2) (l1 : X.env.kindOf x1 = some .local) (l2 : X.env.kindOf x2 = some .local)
    (e1 : σ[i1]? = some (some (.ref l))) (e2 : σ[i2]? = some (some v)) (d1 : (x1 == ("__debug__" : Str)) = false) (d2 : (x2 == ("__debug__" : Str)) = false) (hl : H l = some (.lst ys)) (hz : ys.length < sizeLine)
    (hbase : attributeBase (.Name x1 p1) "append" X.env (eval (.Name x1 p1) X.env) = eval (.Name x1 p1) X.env) (hline : (pa.endLine == pc.line) = true)
    (hQ : ∀ h' tk, Inv X pins σ (upd H l (.lst (ys ++ [v]))) { s with heap := h', toks := tk } → (∀ b o, b ≠ l → s.heap.get? b = some o → h'.get? b = some o) → Q .next { s with heap := h', toks := tk }) :
    wpAny (model X.prog X.w) A (exec (.Expr (.Call (.Attribute (.Name x1 p1) "append" pa) [.Name x2 p2] [] pc) pos) X.env) Q E s := by
  refine wpAny_Expr_any ?_ hcalm (by rfl)
  refine wpAny_Call_method_late hbase (by rfl) hline rfl (nm_at I h1 l1 e1 d1 fun u r => ?_)
  obtain rfl : u = Value.ref l := r
  obtain ⟨z, its, n, rv, hlen, e⟩ := I.lstM hl
  refine ⟨"list", "list.append", PySem.F.plainAttrs_list, PySem.F.slot_list_append, PySem.F.type_list_append, ⟨_, e, rfl⟩, fun a ea => by cases ea; exact ⟨_, e, rfl⟩, ?_⟩
  refine Calls.callWith_builtin (by rfl) (Calls.evalArgs_plain ?_)
  show wpAny _ _ (spliced ((false, eval (.Name x2 p2) X.env) :: [])) _ _ s
  refine Calls.spliced_cons (nm_at I h2 l2 e2 d2 fun u ru => ?_)
  refine Calls.spliced_nil ?_
  refine call_meets F.slot_list_append ⟨_, e, rfl⟩ F.entry_list_append (F.args_list_append_2 _ _) (PySem.list_append l its.toArray n u (by rw [List.size_toArray]; omega)) ⟨e, ?_⟩
  have I2 := inv_push I hl hz rv e ru
  exact hQ _ _ (I2.tok _) fun b o hb q => (Heap.get?_update_other _ _ (Ne.symm hb)).trans q
/-- len(found) == many -/
theorem len_at {i1 i2 : Nat} {x1 x2 nl : Str} {l : Addr} {ys : List V} {m : Int} {p1 p2 pl pc pos : Pos} {whole : Sem Value} {Q : Bool → Shared → Prop} (I : Inv X pins σ H s) (h1 : X.N[i1]? = some x1) (h2 : X.N[i2]? = some x2) (l1 : X.env.kindOf x1 = some .local) (l2 : X.env.kindOf x2 = some .local)
    (e1 : σ[i1]? = some (some (.ref l))) (e2 : σ[i2]? = some (some (.int m))) (d1 : (x1 == ("__debug__" : Str)) = false) (d2 : (x2 == ("__debug__" : Str)) = false) (hl : H l = some (.lst ys)) (hg : Gl X nl) (hm : X.mg nl = none) (hv : bootBuiltins nl = some (.builtin "len")) (hn : nl ≠ "__name__") (dl : (nl == ("__debug__" : Str)) = false)
    (hQ : ∀ tk, Inv X pins σ H { s with toks := tk } → Q ((ys.length : Int) == m) { s with toks := tk }) :
    wpAny (model X.prog X.w) X.A (isTrue (.Compare (.Call (.Name nl pl) [.Name x1 p1] [] pc) [.Eq] [.Name x2 p2] pos) X.env whole) Q E s := by
  refine wpAny_isTrue_Compare1 ?_ (by rfl)
  refine wpAny_Call_Name_kw (ld_blt I hg hm hv ?_ hn dl)
  refine PyProof.Rows.callWith_builtin1 ?_ (by rfl) (by rfl)
  show wpAny _ _ (spliced ((false, eval (.Name x1 p1) X.env) :: [])) _ _ s
  refine Calls.spliced_cons (nm_at I h1 l1 e1 d1 fun u r => ?_)
  refine Calls.spliced_nil ?_
  obtain rfl : u = Value.ref l := r
  obtain ⟨its, r', pl, hz⟩ := I.list (.inl (.inl hl))
  have hlen := r'.length
  have hn63 := line63
  refine Calls.call_len_list pl.isList (by simp only [List.size_toArray] <;> omega) ?_
  have I2 := I.tok (s.toks + 1 + 1)
  refine nm_at I2 h2 l2 e2 d2 fun u ru => ?_
  obtain ⟨t, rfl⟩ := ru
  refine eq_int (wpAny_truthy_bool ?_)
  rw [List.size_toArray, ← hlen]
  exact hQ _ I2
end
/-- the loop: all items, or the first many of them -/
def tForGR (t : TGn) (ifound imove imany : Nat) : TS := fun D σ H => t σ H fun len it H1 => ∃ (l : Addr) (m : Int), σ[ifound]? = some (some (.ref l)) ∧ σ[imany]? = some (some (.int m)) ∧ H1 l = some (.lst []) ∧ 1 ≤ m ∧ m ≤ (sizeLine : Int) ∧
  (∀ i x H H', Kp H H' → it i x H → it i x H') ∧
  ∀ (ys : List V) (H2 : Hp) σ', (σ' = σ ∨ ∃ v, σ' = σ.set imove v) → H2 l = some (.lst ys) → (∀ b o, b ≠ l → H1 b = some o → H2 b = some o) → (∀ i x, ys[i]? = some x → it i x H2) →
    (ys.length ≤ len ∧ (ys.length : Int) = m → D.rt (.ref l) H2) ∧ (ys.length = len ∧ (len : Int) < m → D.nx σ' H2)
theorem ps_forGR {X : Cx} {k ifound imove imany : Nat} {iter : Expr} {t : TGn} {xf xm xn nl : Str} {py p1 p2 pa pc pe p3 p4 p5 p6 p7 p8 pr pif pos : Pos} (hp : PassesOwn (model X.prog X.w) X.A X.env X.xe) (hr : Room (k + 1) X.A) (hi : PGn X k iter t) (hN : X.N.Nodup)
    (hf : X.N[ifound]? = some xf) (hm : X.N[imove]? = some xm) (hn : X.N[imany]? = some xn) (n1 : ifound ≠ imove) (n2 : imany ≠ imove) (lf : X.env.kindOf xf = some .local) (lm : X.env.kindOf xm = some .local) (ln : X.env.kindOf xn = some .local)
    (df : (xf == ("__debug__" : Str)) = false) (dm : (xm == ("__debug__" : Str)) = false) (dn : (xn == ("__debug__" : Str)) = false) (hg : Gl X nl) (hmg : X.mg nl = none) (hv : bootBuiltins nl = some (.builtin "len")) (hnl : nl ≠ "__name__") (dl : (nl == ("__debug__" : Str)) = false)
    (hbase : attributeBase (.Name xf p1) "append" X.env (eval (.Name xf p1) X.env) = eval (.Name xf p1) X.env) (hline : (pa.endLine == pc.line) = true) (hs : ∀ x, foldedSetIterable iter X.env x = pure x := by intro _; rfl) :
    PS X (.For (.Name xm py) iter [.Expr (.Call (.Attribute (.Name xf p1) "append" pa) [.Name xm p2] [] pc) pe, .If (.Compare (.Call (.Name nl p3) [.Name xf p4] [] p5) [.Eq] [.Name xn p6] p7) [.Return (some (.Name xf p8)) pr] [] pif] [] pos) (tForGR t ifound imove imany) := by
  refine ⟨fun pins s σ H D I h => ?_⟩
  have hcls : (X.env.scope.kind == .class || (X.env.scope.kind == .module && X.env.locals != X.env.globals)) = false := by rw [I.ok.kind]; rfl
  refine wpAny_For (thn (hi.run pins s σ H _ I h) fun v s1 h1 => ?_) hs
  obtain ⟨H1, sc, len, it, _, I0, M, l, m, e1, e2, hl1, hm1, hlen, mono, hpos⟩ := h1
  obtain ⟨I1, N, env, a, g, go, fp, gs, rfl, hafp, _, Y, hA⟩ := made_inv I0 M
  obtain ⟨ok, L⟩ := hA X.A.in1 hr.in1 I1.ok.frames
  refine wpAny_pyIter_gen (L.go_.gen L.at_) ?_
  refine codeAny_forLoop_any (fun n s' => ∃ (σ' : L2.St) (H' : Hp) (ys : List V) (fp : List Addr) (gp : List Nat) (gs : GenState), Inv X pins σ' H' s' ∧ LvAt (gOf X N env sc.heap.objs.size a go len it X.A.in1) a g go n ys.length fp gp gs s' H' ∧ a ∈ fp ∧ n + ys.length = len ∧ (ys.length : Int) < m ∧
    (σ' = σ ∨ ∃ v, σ' = σ.set imove v) ∧ H' l = some (.lst ys) ∧ (∀ b o, b ≠ l → H1 b = some o → H' b = some o) ∧ ∀ i x, ys[i]? = some x → it i x H') ?_ len
    ⟨σ, H1, [], fp, [], gs, I1, L, hafp, by simp, by simp; omega, .inl rfl, hl1, fun _ _ _ e => e, fun i x e => by simp at e⟩
  rintro n s3 ⟨σ', H', ys, fp, gp, gs, I3, L3, ha3, hn3, hlt, hσ, hl3, hk3, hi3⟩
  refine wpAny_passesOwn hp (thn (next_inv hr.hd hr.depth I1.ok.frames ok I3 Y L3 ha3) fun r s4 ⟨H4, I4, sm, q⟩ => ?_)
  have hl4 : H4 l = some (.lst ys) := sm _ _ hl3
  have hk4 : ∀ b o, b ≠ l → H1 b = some o → H4 b = some o := fun b o hb e => sm _ _ (hk3 b o hb e)
  cases n with
  | zero =>
    obtain rfl : r = none := q
    refine wpAny_execs_nil ⟨σ', H4, I4, ?_⟩
    have hz : ys.length = len := by omega
    exact (hpos ys H4 σ' hσ hl4 hk4 fun i x e => mono i x _ _ (GF.Same.kp sm) (hi3 i x e)).2 ⟨hz, by omega⟩
  | succ n =>
    obtain ⟨u, x, fp', gp', gs', rfl, rx, hitx, ha', L'⟩ := q
    refine wpAny_passesOwn hp (go_gen L'.at_ L'.go_ ?_)
    obtain ⟨mm, hnm, hlm⟩ := I4.loc
    refine wpAny_passesOwn hp (wpAny_assign_Name (wpAny_storeName_local lm hnm (fun h' hn' hsb => ?_) hcls))
    have I5 := inv_store (tk := s4.toks + 1) I4 hN hm lm rx hnm hlm hn' hsb
    have hiσ : imove < σ'.length := by rw [I4.len]; exact (List.getElem?_eq_some_iff.mp hm).1
    have ef : (σ'.set imove (some x))[ifound]? = some (some (.ref l)) := by
      rw [List.getElem?_set_ne (Ne.symm n1)]
      rcases hσ with e | ⟨v, e⟩
      · rw [e]; exact e1
      · rw [e, List.getElem?_set_ne (Ne.symm n1)]; exact e1
    have en : (σ'.set imove (some x))[imany]? = some (some (.int m)) := by
      rw [List.getElem?_set_ne (Ne.symm n2)]
      rcases hσ with e | ⟨v, e⟩
      · rw [e]; exact e2
      · rw [e, List.getElem?_set_ne (Ne.symm n2)]; exact e2
    have em : (σ'.set imove (some x))[imove]? = some (some x) := List.getElem?_set_self hiσ
    have hσ2 : (σ'.set imove (some x) = σ ∨ ∃ v, σ'.set imove (some x) = σ.set imove v) := by
      rcases hσ with e | ⟨v, e⟩
      · exact .inr ⟨some x, by rw [e]⟩
      · exact .inr ⟨some x, by rw [e, List.set_set]⟩
    have nS : ∀ b ∈ fp', b ≠ l := fun b hb z => by
      have q := (L'.own.at_ b hb).2.1
      rw [z, hl4] at q
      cases q
    have fL : ∀ b ∈ fp', b ≠ X.env.locals := fun b hb z => by
      have q1 := (L'.own.at_ b hb).1
      rw [z] at q1
      exact absurd (Nat.lt_of_lt_of_le Y.loc q1) (Nat.lt_irrefl _)
    refine wpAny_passesOwn hp (wpAny_execs_cons (app_at I4.quiet I5 hf hm lf lm ef em df dm hl4 (by omega) hbase hline fun h6 tk6 I6 k6 => ?_))
    have k7 : Kp H4 (upd H4 l (.lst (ys ++ [x]))) := kp_lst hl4
    have hl7 : (ys ++ [x]).length = ys.length + 1 := by simp
    have it7 : ∀ i y, (ys ++ [x])[i]? = some y → it i y (upd H4 l (.lst (ys ++ [x]))) := fun i y e => by
      by_cases hi2 : i < ys.length
      · rw [List.getElem?_append_left hi2] at e
        exact mono i y _ _ ((GF.Same.kp sm).trans k7) (hi3 i y e)
      · rw [List.getElem?_append_right (by omega)] at e
        have hz : i - ys.length = 0 := by
          cases q : i - ys.length with
          | zero => rfl
          | succ m => rw [q] at e; simp at e
        rw [hz] at e
        have ex : x = y := by simpa using e
        have ei : i = ys.length := by omega
        subst ex ei
        exact mono _ _ _ _ k7 hitx
    have hk7 : ∀ b o, b ≠ l → H1 b = some o → (upd H4 l (.lst (ys ++ [x]))) b = some o := fun b o hb e => by rw [upd_ne hb]; exact hk4 b o hb e
    refine wpAny_execs_cons (wpAny_If (len_at I6 hf hn lf ln ef en df dn upd_same hg hmg hv hnl dl fun tk I7 => ?_))
    cases hb : (((ys ++ [x]).length : Int) == m) with
    | true =>
      have hm' : ((ys ++ [x]).length : Int) = m := beq_iff_eq.mp hb
      rw [if_pos rfl]
      refine wpAny_execs_cons (wpAny_Return_some (nm_at I7 hf lf ef df fun u ru => ?_))
      obtain rfl : u = Value.ref l := ru
      exact ⟨.ref l, _, _, I7, rfl, (hpos _ _ _ hσ2 upd_same hk7 it7).1 ⟨by omega, hm'⟩⟩
    | false =>
      have hm' : ((ys ++ [x]).length : Int) ≠ m := fun z => by rw [beq_iff_eq.mpr z] at hb; cases hb
      rw [if_neg Bool.false_ne_true]
      refine wpAny_execs_nil (wpAny_execs_nil ?_)
      have L8 := L'.move (s' := { s4 with heap := h6, toks := tk }) ha' k7 (fun b hb => ⟨fun o e => k6 b o (nS b hb) ((hsb.2 b (fL b hb)).trans e), by rw [upd_ne (nS b hb)]; exact (L'.own.at_ b hb).2.1⟩) rfl fun g' _ => rfl
      exact ⟨n, Nat.lt_succ_self n, _, _, ys ++ [x], fp', gp', gs', I7, by rw [hl7]; exact L8, ha', by omega, by omega, hσ2, upd_same, hk7, it7⟩
end GF
end

/-! ## R1 -/
section
set_option Elab.async false
set_option linter.all false
set_option maxRecDepth 100000
set_option maxHeartbeats 4000000
namespace RW
open PySem PySem.Spec PyProof.Rows L2

/-! ### rules by positional promises; no exception goes out -/
abbrev F0 (P : Program) (w : World) (K : PySem.W.Frag) (mg : Str → Option Value) (base : Heap) (k : Nat) (f : Addr) (sp : Sp) : Prop := FnR P w K mg base CX0 k f sp

theorem PE.imp {X : Cx} {e : Expr} {t t' : TE} (h : PE X e t) (ht : ∀ σ H Q, t' σ H Q → t σ H Q) : PE X e t' := ⟨fun pins s σ H Q I q => h.run pins s σ H Q I (ht _ _ _ q)⟩
theorem PE.or {X : Cx} {e : Expr} {t t' : TE} (h : PE X e t) (h' : PE X e t') : PE X e (fun σ H Q => t σ H Q ∨ t' σ H Q) :=
  ⟨fun pins s σ H Q I q => q.elim (fun q => h.run pins s σ H Q I q) fun q => h'.run pins s σ H Q I q⟩

def tCl (sp : Sp) (t : TA) : TE := fun σ H Q => t σ H fun vs H1 => sp vs H1 Q E0
def tCl0 (sp : Sp) : TE := fun σ H Q => sp [] H Q E0
def tMkS (K : PySem.W.Frag) (C : Addr) (sp : Sp) (ta : TE) : TE := fun σ H Q => ta σ H fun y H1 => ∃ a xs, y = V.ref a ∧ (SqT K H1 a xs ∨ SqL K H1 a xs) ∧ ∀ x dx, H1 x = none → H1 dx = none → dx ≠ x →
  sp (V.ref x :: xs) (upd (upd H1 dx (.own x)) x (.ins C dx [])) (fun v H2 => v = .non ∧ Q (.ref x) H2) E0
def tMkVS (K : PySem.W.Frag) (i : Nat) (C : Addr) (sp : Sp) (ta : TE) : TE := fun σ H Q => σ[i]? = some (some (.ref C)) ∧ tMkS K C sp ta σ H Q
def tGetO (C : Addr) (sp : Sp) (ta tb : TE) : TE := fun σ H Q => ta σ H fun x H1 => tb σ H1 fun y H2 => ∃ p dx fs, x = .ref p ∧ H2 p = some (.ins C dx fs) ∧ sp [x, y] H2 Q E0
def tPrp (C : Addr) (sp : Sp) (ta : TE) : TE := fun σ H Q => ta σ H fun x H1 => ∃ a dx fs, x = .ref a ∧ H1 a = some (.ins C dx fs) ∧ sp [.ref a] H1 Q E0
def tClsF (C : Addr) (sp : Sp) (ta : TE) (t : TA) : TE := fun σ H Q => ta σ H fun x H1 => x = .ref C ∧ t σ H1 fun vs H2 => sp vs H2 Q E0
section
variable {X : Cx} {k : Nat} {f C : Addr} {sp : Sp} {x m : Str} {p pos apos : Pos} {e o : Expr} {es : List Expr} {ta : TE} {t : TA}
/-- f(e, ..) -/
theorem c_call (F : F0 X.prog X.w X.K X.mg X.base k f sp) (hr : Room k X.A) (hm : X.mg x = some (.ref f)) (hk : PySem.W.keepIn X.K (.ref f) = true) (ha : PA X (e :: es) t) (hg : Gl X x := by rfl)
    (hdb : (x == ("__debug__" : Str)) = false := by decide) (he : starEach (e :: es) X.env = (false, eval e X.env) :: starEach es X.env := by rfl) (hpl : (backTo pos (starEach es X.env)).any (·.1) = false := by rfl) :
    PE X (.Call (.Name x p) (e :: es) [] pos) (tCl sp t) := by
  refine ⟨fun pins s σ H Q I h => ?_⟩
  refine wpAny_Call_Name_kw (ld_glob I hg hm ?_ hdb)
  refine PySem.W.callWith_K (h₀ := X.base) I.ok.mod.kin hk (thn (ha.run pos pins s σ H _ I h) fun us s1 ⟨vs, H1, I1, r, q⟩ => ⟨I1.kIn, ?_⟩) he hpl
  exact wpAny_call (run_fnR F hr pass0 I1 r q)
/-- f() -/
theorem c_call0 (F : F0 X.prog X.w X.K X.mg X.base k f sp) (hr : Room k X.A) (hm : X.mg x = some (.ref f)) (hk : PySem.W.keepIn X.K (.ref f) = true) (hg : Gl X x := by rfl)
    (hdb : (x == ("__debug__" : Str)) = false := by decide) : PE X (.Call (.Name x p) [] [] pos) (tCl0 sp) := by
  refine ⟨fun pins s σ H Q I h => ?_⟩
  refine wpAny_Call_Name_kw (ld_glob I hg hm ?_ hdb)
  exact PySem.W.callWith_K0 I.kIn hk (wpAny_call (run_fnR (us := []) F hr pass0 I .nil h))
def tM (C : Addr) (m : Str) (sp : Sp) (ta : TE) (t : TA) : TE := fun σ H Q => ta σ H fun x H1 => ∃ a dx fs, x = .ref a ∧ H1 a = some (.ins C dx fs) ∧ fs.lookup m = none ∧
  t σ H1 fun vs H2 => sp (x :: vs) H2 Q E0
/-- o.m(e, ..) -/
theorem c_meth {pl : Sem Bool} (he : PE X o ta) (c : Cls X.K C) (hm : Meth X.K C m f) (F : F0 X.prog X.w X.K X.mg X.base k f sp) (hr : Room k X.A) (ha : PA X (e :: es) t)
    (hst : starEach (e :: es) X.env = (false, eval e X.env) :: starEach es X.env := by rfl) (hpl : (backTo pos (starEach es X.env)).any (·.1) = false := by rfl)
    (ht : eval (.Call (.Attribute o m apos) (e :: es) [] pos) X.env = (do
      let ov ← eval o X.env
      standAt apos.atName
      let (f, first) ← holding [ov] (getMethod ov m pl)
      callWith pos f first (backTo pos (starEach (e :: es) X.env)) (backToKw pos (keywordEach [] X.env))) := by rfl) :
    PE X (.Call (.Attribute o m apos) (e :: es) [] pos) (tM C m sp ta t) := by
  refine ⟨fun pins s σ H Q I h => ?_⟩
  refine PySem.W.methodCall_KW (pl := pl) (thn (he.run pins s σ H _ I h) fun u s1 ⟨x, H1, I1, rx, a, dx, fs, ex, ea, l, q⟩ => ?_) ht
  subst ex
  obtain rfl : u = Value.ref a := rx
  refine getmeth_ok I1 ea c hm l ?_
  refine PySem.W.callWith_K (first := [.ref a]) (h₀ := X.base) I.ok.mod.kin hm.kp (thn (ha.run pos pins s1 σ H1 _ I1 q) fun us s2 ⟨vs, H2, I2, r, q2⟩ => ⟨I2.kIn, ?_⟩) hst hpl
  exact wpAny_call (run_fnR (us := .ref a :: us) (vs := .ref a :: vs) F hr pass0 I2 (.cons rfl r) q2)
/-- o.m() -/
theorem c_meth0 {pl : Sem Bool} (he : PE X o ta) (c : Cls X.K C) (hm : Meth X.K C m f) (F : F0 X.prog X.w X.K X.mg X.base k f sp) (hr : Room k X.A)
    (ht : eval (.Call (.Attribute o m apos) [] [] pos) X.env = (do
      let ov ← eval o X.env
      standAt apos.atName
      let (f, first) ← holding [ov] (getMethod ov m pl)
      callWith pos f first (backTo pos (starEach [] X.env)) (backToKw pos (keywordEach [] X.env))) := by rfl) :
    PE X (.Call (.Attribute o m apos) [] [] pos) (tM C m sp ta tNil) := by
  refine ⟨fun pins s σ H Q I h => ?_⟩
  refine PySem.W.methodCall_KW (pl := pl) (thn (he.run pins s σ H _ I h) fun u s1 ⟨x, H1, I1, rx, a, dx, fs, ex, ea, l, q⟩ => ?_) ht
  subst ex
  obtain rfl : u = Value.ref a := rx
  refine getmeth_ok I1 ea c hm l ?_
  exact PySem.W.callWith_K0 (first := [.ref a]) I1.kIn hm.kp (wpAny_call (run_fnR (us := [.ref a]) (vs := [.ref a]) F hr pass0 I1 (.cons rfl .nil) q))
/-- C(e, ..) -/
theorem c_make (M : Mk X.K C f) (F : F0 X.prog X.w X.K X.mg X.base k f sp) (hr : Room (k + 1) X.A) (hm : X.mg x = some (.ref C)) (ha : PA X (e :: es) t) (hg : Gl X x := by rfl) (hdb : (x == ("__debug__" : Str)) = false := by decide)
    (he : starEach (e :: es) X.env = (false, eval e X.env) :: starEach es X.env := by rfl) (hpl : (backTo pos (starEach es X.env)).any (·.1) = false := by rfl) : PE X (.Call (.Name x p) (e :: es) [] pos) (StX.tMakeR C sp E0 t) :=
  StX.pe_makeR M F hr hg hm pass0 ha hdb he hpl
/-- C() -/
theorem c_make0 (M : Mk X.K C f) (F : F0 X.prog X.w X.K X.mg X.base k f sp) (hr : Room (k + 1) X.A) (hm : X.mg x = some (.ref C)) (hg : Gl X x := by rfl) (hdb : (x == ("__debug__" : Str)) = false := by decide) :
    PE X (.Call (.Name x p) [] [] pos) (StX.tMakeR C sp E0 tNil) := by
  refine ⟨fun pins s σ H Q I h => ?_⟩
  refine wpAny_Call_Name_kw (ld_glob I hg hm ?_ hdb)
  exact PySem.W.callWith_K0 I.kIn M.kp (StX.run_makeR (us := []) M F hr pass0 I .nil h)
/-- C(*y) -/
theorem c_makeS {sp_ : Pos} (M : Mk X.K C f) (F : F0 X.prog X.w X.K X.mg X.base k f sp) (hr : Room (k + 1) X.A) (hm : X.mg x = some (.ref C)) (he : PE X e ta) (hg : Gl X x := by rfl) (hdb : (x == ("__debug__" : Str)) = false := by decide)
    (hst : starEach [.Starred e sp_] X.env = [(true, eval e X.env)] := by rfl) :
    PE X (.Call (.Name x p) [.Starred e sp_] [] pos) (tMkS X.K C sp ta) := by
  refine ⟨fun pins s σ H Q I h => ?_⟩
  refine wpAny_Call_Name_kw (ld_glob I hg hm ?_ hdb)
  refine PySem.W.callWith_S (h₀ := X.base) I.ok.mod.kin M.kp (thn (he.run pins s σ H _ I h) fun v s1 ⟨y, H1, I1, ry, a, xs, ey, hxs, q⟩ => ?_) hst
  subst ey
  obtain rfl : v = Value.ref a := ry
  exact StX.star_any I1 hxs fun us s2 I2 rv => ⟨I2.kIn, StX.run_makeR M F hr pass0 I2 rv q⟩
/-- y(*z), y a local that holds the class -/
theorem c_makeVS {i : Nat} {sp_ : Pos} (M : Mk X.K C f) (F : F0 X.prog X.w X.K X.mg X.base k f sp) (hr : Room (k + 1) X.A) (hi : PE X (.Name x p) (tVar i)) (he : PE X e ta)
    (hst : starEach [.Starred e sp_] X.env = [(true, eval e X.env)] := by rfl) :
    PE X (.Call (.Name x p) [.Starred e sp_] [] pos) (tMkVS X.K i C sp ta) := by
  refine ⟨fun pins s σ H Q I h => ?_⟩
  obtain ⟨h0, h⟩ := h
  refine wpAny_Call_Name_kw (thn (hi.run pins s σ H (fun v H' => v = .ref C ∧ H' = H) I ⟨_, h0, rfl, rfl⟩) fun u s0 ⟨v0, H0, I0, r0, e0, eH⟩ => ?_)
  subst e0 eH
  obtain rfl : u = Value.ref C := r0
  refine PySem.W.callWith_S (h₀ := X.base) I0.ok.mod.kin M.kp (thn (he.run pins s0 σ H0 _ I0 h) fun v s1 ⟨y, H1, I1, ry, a, xs, ey, hxs, q⟩ => ?_) hst
  subst ey
  obtain rfl : v = Value.ref a := ry
  exact StX.star_any I1 hxs fun us s2 I2 rv => ⟨I2.kIn, StX.run_makeR M F hr pass0 I2 rv q⟩
end

section
variable {X : Cx} {pins : List (Addr × Obj)} {σ : L2.St} {H : Hp} {s : Shared} {k : Nat} {f : Addr} {sp : Sp} {us : List Value} {vs : List V} {Q : VK}
/-- the callee runs one level deeper -/
theorem run_in1 {E1 : Value → Shared → Prop} (F : F0 X.prog X.w X.K X.mg X.base k f sp) (hr : Room (k + 1) X.A) (I : Inv X pins σ H s) (r : Vals vs us) (h : sp vs H Q E0) : wpAny (model X.prog X.w) X.A.in1 (call (.ref f) us) (EP X pins σ Q) E1 s := by
  refine wpAny_call (codeAny_mono (F X.A.in1 X.stack s H us vs Q E0 hr.in1 I.env0.in1 r h) fun r s' hq => ?_)
  cases r with
  | error e => exact hq.elim
  | ok fl =>
    cases fl with
    | ret u => exact I.after hq
    | next => exact False.elim hq
    | brk => exact False.elim hq
    | cont => exact False.elim hq
theorem run_at (F : F0 X.prog X.w X.K X.mg X.base k f sp) (hr : Room k X.A) (I : Inv X pins σ H s) (r : Vals vs us) (h : sp vs H Q E0) : wpAny (model X.prog X.w) X.A (call (.ref f) us) (EP X pins σ Q) X.xe s :=
  wpAny_call (run_fnR F hr pass0 I r h)
theorem ins_fr {a C dx : Addr} {fs : List (Str × V)} (I : Inv X pins σ H s) (ha : H a = some (.ins C dx fs)) : (∃ m, Fr X.base X.env.locals s.heap m) ∧ ∃ ox od, PySem.W.InstAt s.heap a ox C od := by
  obtain ⟨mA, J, _⟩ := ins_get I.hok ha
  obtain ⟨od, J, _⟩ := J.look
  exact ⟨I.fr, _, od, J⟩
end

section
variable {X : Cx} {k : Nat} {f C : Addr} {sp : Sp} {a b : Expr} {ta tb : TE} {pos : Pos}
/-- a[b] by an own __getitem__ -/
theorem c_getitem (hm : Meth X.K C "__getitem__" f) (hf : PySem.W.fnIn X.K f = true) (F : F0 X.prog X.w X.K X.mg X.base k f sp) (hr : Room (k + 1) X.A) (ha : PE X a ta) (hb : PE X b tb)
    (hsl : ∀ v i, subscripted b true v i = runValue (.builtin "lifetime.subscript" ⟨[v, i], []⟩) := by intro _ _; rfl) :
    PE X (.Subscript a b pos) (tGetO C sp ta tb) := by
  refine ⟨fun pins s σ H Q I h => ?_⟩
  refine Subscript_ (thn (ha.run pins s σ H _ I h) fun v s1 ⟨x, H1, I1, rx, q1⟩ => thn (hb.run pins s1 σ H1 _ I1 q1) fun u s2 ⟨y, H2, I2, ry, p, dx, fs, ex, hp, q2⟩ => ?_)
  subst ex
  obtain rfl : v = Value.ref p := rx
  obtain ⟨⟨m, F'⟩, ox, od, J⟩ := ins_fr I2 hp
  exact PySem.W.sub_K F' I2.ok.mod.kin J hm.at_ hf hm.fn (run_in1 (vs := [.ref p, y]) F hr I2 (.cons rfl (.cons ry .nil)) q2) (hsl _ _)
/-- o[i] = e by an own __setitem__ -/
theorem set_own (hm : Meth X.K C "__setitem__" f) (hq : PySem.W.noSeq X.K C = true) (F : F0 X.prog X.w X.K X.mg X.base k f sp) (hr : Room k X.A) :
    PSet X (fun o i v H Q => ∃ p dx fs, o = .ref p ∧ H p = some (.ins C dx fs) ∧ sp [o, i, v] H (fun _ H' => Q H') E0) := by
  intro pins s σ H o i v ov iv u Q I ro ri rv h
  obtain ⟨p, dx, fs, eo, hp, q⟩ := h
  subst eo
  obtain rfl : ov = Value.ref p := ro
  obtain ⟨⟨m, F'⟩, ox, od, J⟩ := ins_fr I hp
  exact PySem.W.ksp_setItem F' I.ok.mod.kin J hq hm.at_ hm.fn (thn (run_at (vs := [.ref p, i, v]) F hr I (.cons rfl (.cons ri (.cons rv .nil))) q) fun w s' ⟨_, H', I', _, q'⟩ => ⟨H', I', q'⟩)
/-- len(o) by an own __len__ -/
theorem call_len_own (hm : Meth X.K C "__len__" f) (F : F0 X.prog X.w X.K X.mg X.base k f sp) (hr : Room (k + 1) X.A) :
    CallR X (.builtin "len") (fun vs H Q => ∃ p dx fs, vs = [.ref p] ∧ H p = some (.ins C dx fs) ∧ sp [.ref p] H (fun v H' => ∃ n : Nat, v = .int n ∧ n < 2 ^ 63 ∧ Q v H') E0) := by
  intro pins s σ H xs us Q I r h
  obtain ⟨p, dx, fs, ex, hp, q⟩ := h
  subst ex
  obtain ⟨u, rfl, ru⟩ := (show ∃ u, us = [u] ∧ RelV (.ref p) u from by cases r with | cons a b => cases b with | nil => exact ⟨_, rfl, a⟩)
  obtain rfl : u = Value.ref p := ru
  obtain ⟨⟨m, F'⟩, ox, od, J⟩ := ins_fr I hp
  refine PySem.W.len_K F' I.ok.mod.kin J hm.at_ hm.fn (thn (run_in1 (vs := [.ref p]) F hr I (.cons rfl .nil) q) fun w s' ⟨v, H', I', rv, n, ev, hn, q'⟩ => ?_)
  subst ev
  obtain ⟨t, rfl⟩ := rv
  exact ⟨⟨by omega, by omega⟩, .int n, H', I'.tok _, ⟨_, rfl⟩, q'⟩
/-- a op b, both of one own class -/
theorem op_own {op : Operator} (hm : Meth X.K C (PySem.dunder op.info.2) f) (hc : PySem.W.selfFirst X.K C = true) (F : F0 X.prog X.w X.K X.mg X.base k f sp) (hr : Room k X.A) :
    OpR X (binaryOp op) (fun x y H Q => ∃ p q dx dy fs gs, x = .ref p ∧ y = .ref q ∧ H p = some (.ins C dx fs) ∧ H q = some (.ins C dy gs) ∧ sp [x, y] H (fun v H' => (∃ r, v = .ref r) ∧ Q v H') E0) := by
  intro pins s σ H x y v u Q I rx ry h
  obtain ⟨p, q, dx, dy, fs, gs, ex, ey, hp, hq, h⟩ := h
  subst ex ey
  obtain rfl : v = Value.ref p := rx
  obtain rfl : u = Value.ref q := ry
  obtain ⟨⟨m, F'⟩, ox, od, J⟩ := ins_fr I hp
  obtain ⟨_, oy, oe, J2⟩ := ins_fr I hq
  refine PySem.W.binop_K F' I.ok.mod.kin J J2.type hc hm.at_ hm.fn (thn (run_at (vs := [.ref p, .ref q]) F hr I (.cons rfl (.cons rfl .nil)) h) fun w s' ⟨v, H', I', rv, ⟨r, ev⟩, q'⟩ => ?_)
  subst ev
  obtain rfl : w = Value.ref r := rv
  exact ⟨.ref r, H', I', rfl, q'⟩
/-- a op n, a of an own class, n an int -/
theorem op_own_int {op : Operator} {fo ro rc : Option Value} (hm : Meth X.K C (PySem.dunder op.info.2) f) (hc : PySem.W.selfFirst X.K C = true) (hr' : PySem.W.findIn X.K (.ref C) (dunderR op.info.2) = some rc) (hp : rc = none ∨ ∃ g : Addr, rc = some (.ref g))
    (h1 : PySem.W.findIn X.K (.type "int") (PySem.dunder op.info.2) = some fo) (h2 : PySem.W.findIn X.K (.type "int") (dunderR op.info.2) = some ro) (hsub : PySem.W.subIn X.K (.type "int") (.ref C) = some false)
    (F : F0 X.prog X.w X.K X.mg X.base k f sp) (hr : Room k X.A) :
    OpR X (binaryOp op) (fun x y H Q => ∃ p dx fs i, x = .ref p ∧ y = .int i ∧ H p = some (.ins C dx fs) ∧ sp [x, y] H (fun v H' => (∃ r, v = .ref r) ∧ Q v H') E0) := by
  intro pins s σ H x y v u Q I rx ry h
  obtain ⟨p, dx, fs, i, ex, ey, hp', h⟩ := h
  subst ex ey
  obtain rfl : v = Value.ref p := rx
  obtain ⟨tk, rfl⟩ := ry
  obtain ⟨⟨m, F'⟩, ox, od, J⟩ := ins_fr I hp'
  refine PySem.W.ksp_binT (T := "int") F' I.ok.mod.kin J rfl hc hm.at_ hm.fn hr' hp h1 h2 hsub (thn (run_at (vs := [.ref p, .int i]) F hr I (.cons rfl (.cons ⟨_, rfl⟩ .nil)) h) fun w s' ⟨v, H', I', rv, ⟨r, ev⟩, q'⟩ => ?_)
  subst ev
  obtain rfl : w = Value.ref r := rv
  exact ⟨.ref r, H', I', rfl, q'⟩
theorem OpR.or {g : Value → Value → Sem Value} {r r' : R2} (h : OpR X g r) (h' : OpR X g r') : OpR X g (fun x y H Q => r x y H Q ∨ r' x y H Q) := fun pins s σ H x y v u Q I rx ry q =>
  q.elim (fun q => h pins s σ H x y v u Q I rx ry q) fun q => h' pins s σ H x y v u Q I rx ry q
theorem OpR.imp {g : Value → Value → Sem Value} {r r' : R2} (h : OpR X g r) (hi : ∀ x y H Q, r' x y H Q → r x y H Q) : OpR X g r' := fun pins s σ H x y v u Q I rx ry q => h pins s σ H x y v u Q I rx ry (hi _ _ _ _ q)
end

section
variable {X : Cx} {k : Nat} {C f g p : Addr} {mc : Value} {sp : Sp} {m nm : Str} {o e fe : Expr} {es : List Expr} {ta tf : TE} {t : TA} {pos apos np : Pos}
/-- e.f, a property -/
theorem c_prop (he : PE X e ta) (c : Cls X.K C) (hp : PropOf X.K C nm p g) (F : F0 X.prog X.w X.K X.mg X.base k g sp) (hr : Room (k + 1) X.A)
    (hab : attributeBase e nm X.env (eval e X.env) = eval e X.env := by rfl) : PE X (.Attribute e nm pos) (tPrp C sp ta) := by
  refine ⟨fun pins s σ H Q I h => ?_⟩
  refine attr_of hab (thn (he.run pins s σ H _ I h) fun u s1 ⟨x, H1, I1, rx, a, dx, fs, ex, ea, q⟩ => ?_)
  subst ex
  obtain rfl : u = Value.ref a := rx
  obtain ⟨mA, O, _, _, _, _⟩ := ins_get I1.hok ea
  obtain ⟨od, J, _⟩ := O.look
  obtain ⟨rest, hrec⟩ := hp.rec_
  have I2 := I1.tok (s1.toks + 1)
  have hc : (PySem.W.clsIn X.K C).isSome = true := by
    obtain ⟨cd, hc, _⟩ := PySem.W.any_some c.hd
    rw [hc]
    rfl
  refine PySem.W.get_bind I1.kIn J (PySem.W.plainGet_of (c.get nm)).1 (PySem.W.findObj_data hc hp.at_ hp.get hp.tak) (PySem.W.plainGet_of (c.get nm)).2 (wpAny_call (PySem.W.prop_get (s := { s1 with toks := s1.toks + 1 }) I1.kIn hrec ?_))
  refine codeAny_mono (F X.A.in1 X.stack { s1 with toks := s1.toks + 1 } H1 [.ref a] [.ref a] Q E0 hr.in1 I2.env0.in1 (.cons rfl .nil) q) fun r s' hq => ?_
  cases r with
  | error er => exact hq.elim
  | ok fl =>
    cases fl with
    | ret u =>
      obtain ⟨v, H', I3, rv, q3⟩ := I2.after hq
      show wpAny _ _ (handedOut u) _ _ _
      rw [PySem.W.handedOut_of (handed_of rv)]
      exact wpAny_pure ⟨v, H', I3, rv, q3⟩
    | next => exact False.elim hq
    | brk => exact False.elim hq
    | cont => exact False.elim hq
/-- f(e, ..), f gives an instance that may be called -/
theorem c_callO (hf : PE X fe tf) (c : StX.CallO X.K C g) (F : F0 X.prog X.w X.K X.mg X.base k g sp) (hr : Room k X.A) (ha : PA X (e :: es) t)
    (ht : eval (.Call fe (e :: es) [] pos) X.env = (do callWith pos (← eval fe X.env) [] (backTo pos (starEach (e :: es) X.env)) (backToKw pos (keywordEach [] X.env))) := by rfl)
    (he : starEach (e :: es) X.env = (false, eval e X.env) :: starEach es X.env := by rfl) (hpl : (backTo pos (starEach es X.env)).any (·.1) = false := by rfl) : PE X (.Call fe (e :: es) [] pos) (StX.tCallO X C sp E0 tf t) :=
  StX.pe_callO hf c F hr pass0 ha ht he hpl
/-- C.m(e, ..), a classmethod -/
theorem c_cmeth {pl : Sem Bool} (he : PE X o ta) (r : ClX.CRead X.K C mc) (c : ClX.CMet X.K C mc m p g) (F : F0 X.prog X.w X.K X.mg X.base k g sp) (hr : Room k X.A) (ha : PA X (e :: es) t)
    (hst : starEach (e :: es) X.env = (false, eval e X.env) :: starEach es X.env := by rfl) (hpl : (backTo pos (starEach es X.env)).any (·.1) = false := by rfl)
    (ht : eval (.Call (.Attribute o m apos) (e :: es) [] pos) X.env = (do
      let ov ← eval o X.env
      standAt apos.atName
      let (f, first) ← holding [ov] (getMethod ov m pl)
      callWith pos f first (backTo pos (starEach (e :: es) X.env)) (backToKw pos (keywordEach [] X.env))) := by rfl) :
    PE X (.Call (.Attribute o m apos) (e :: es) [] pos) (ClX.tCMeth C sp E0 ta t) := ClX.pe_cmeth he r c F hr pass0 ha hst hpl ht
/-- C.m(e, ..), m a def of the class, read off the class -/
theorem c_clsfn {pl : Sem Bool} (he : PE X o ta) (r : ClX.CRead X.K C mc) (c : ClX.CVal X.K C mc m (.ref g) (.ref g)) (hk : PySem.W.keepIn X.K (.ref g) = true) (F : F0 X.prog X.w X.K X.mg X.base k g sp) (hr : Room k X.A) (ha : PA X (e :: es) t)
    (hst : starEach (e :: es) X.env = (false, eval e X.env) :: starEach es X.env := by rfl) (hpl : (backTo pos (starEach es X.env)).any (·.1) = false := by rfl)
    (ht : eval (.Call (.Attribute o m apos) (e :: es) [] pos) X.env = (do
      let ov ← eval o X.env
      standAt apos.atName
      let (f, first) ← holding [ov] (getMethod ov m pl)
      callWith pos f first (backTo pos (starEach (e :: es) X.env)) (backToKw pos (keywordEach [] X.env))) := by rfl) :
    PE X (.Call (.Attribute o m apos) (e :: es) [] pos) (tClsF C sp ta t) := by
  refine ⟨fun pins s σ H Q I h => ?_⟩
  refine PySem.W.methodCall_KW (pl := pl) (thn (he.run pins s σ H _ I h) fun u s1 ⟨x, H1, I1, rx, ex, q⟩ => ?_) ht
  subst ex
  obtain rfl : u = Value.ref C := rx
  refine PySem.W.method_cls I1.kIn r.ga (ClX.getcval_ok I1 r c fun s2 I2 => ?_)
  refine PySem.W.callWith_K (first := []) (h₀ := X.base) I2.ok.mod.kin hk (thn (ha.run pos pins s2 σ H1 _ I2 q) fun us s3 ⟨vs, H2, I3, rv, q2⟩ => ⟨I3.kIn, ?_⟩) hst hpl
  exact wpAny_call (run_fnR F hr pass0 I3 rv q2)
end
end RW
end

/-! ## R2 -/
section
set_option Elab.async false
set_option linter.all false
set_option maxRecDepth 100000
set_option maxHeartbeats 4000000
namespace RW
open PySem PySem.Spec PyProof.Rows L2
/-! ### o.m(..), o of one of two classes -/
section
variable {X : Cx} {k1 k2 : Nat} {C1 C2 f1 f2 : Addr} {sp1 sp2 : Sp} {m : Str} {pos apos : Pos} {e o : Expr} {es : List Expr} {ta : TE} {t : TA}
def tM2 (C1 C2 : Addr) (m : Str) (sp1 sp2 : Sp) (ta : TE) (t : TA) : TE := fun σ H Q => ta σ H fun x H1 => ∃ a dx fs, x = .ref a ∧ fs.lookup m = none ∧
  ((H1 a = some (.ins C1 dx fs) ∧ t σ H1 fun vs H2 => sp1 (x :: vs) H2 Q E0) ∨ (H1 a = some (.ins C2 dx fs) ∧ t σ H1 fun vs H2 => sp2 (x :: vs) H2 Q E0))
theorem c_meth2 {pl : Sem Bool} (he : PE X o ta) (c1 : Cls X.K C1) (m1 : Meth X.K C1 m f1) (F1 : F0 X.prog X.w X.K X.mg X.base k1 f1 sp1) (r1 : Room k1 X.A) (c2 : Cls X.K C2) (m2 : Meth X.K C2 m f2) (F2 : F0 X.prog X.w X.K X.mg X.base k2 f2 sp2) (r2 : Room k2 X.A) (ha : PA X (e :: es) t)
    (hst : starEach (e :: es) X.env = (false, eval e X.env) :: starEach es X.env := by rfl) (hpl : (backTo pos (starEach es X.env)).any (·.1) = false := by rfl)
    (ht : eval (.Call (.Attribute o m apos) (e :: es) [] pos) X.env = (do
      let ov ← eval o X.env
      standAt apos.atName
      let (f, first) ← holding [ov] (getMethod ov m pl)
      callWith pos f first (backTo pos (starEach (e :: es) X.env)) (backToKw pos (keywordEach [] X.env))) := by rfl) :
    PE X (.Call (.Attribute o m apos) (e :: es) [] pos) (tM2 C1 C2 m sp1 sp2 ta t) := by
  refine ⟨fun pins s σ H Q I h => ?_⟩
  refine PySem.W.methodCall_KW (pl := pl) (thn (he.run pins s σ H _ I h) fun u s1 ⟨x, H1, I1, rx, a, dx, fs, ex, l, q⟩ => ?_) ht
  subst ex
  obtain rfl : u = Value.ref a := rx
  rcases q with ⟨ea, q⟩ | ⟨ea, q⟩
  · refine getmeth_ok I1 ea c1 m1 l ?_
    refine PySem.W.callWith_K (first := [.ref a]) (h₀ := X.base) I.ok.mod.kin m1.kp (thn (ha.run pos pins s1 σ H1 _ I1 q) fun us s2 ⟨vs, H2, I2, r, q2⟩ => ⟨I2.kIn, ?_⟩) hst hpl
    exact wpAny_call (run_fnR (us := .ref a :: us) (vs := .ref a :: vs) F1 r1 pass0 I2 (.cons rfl r) q2)
  · refine getmeth_ok I1 ea c2 m2 l ?_
    refine PySem.W.callWith_K (first := [.ref a]) (h₀ := X.base) I.ok.mod.kin m2.kp (thn (ha.run pos pins s1 σ H1 _ I1 q) fun us s2 ⟨vs, H2, I2, r, q2⟩ => ⟨I2.kIn, ?_⟩) hst hpl
    exact wpAny_call (run_fnR (us := .ref a :: us) (vs := .ref a :: vs) F2 r2 pass0 I2 (.cons rfl r) q2)
theorem c_meth20 {pl : Sem Bool} (he : PE X o ta) (c1 : Cls X.K C1) (m1 : Meth X.K C1 m f1) (F1 : F0 X.prog X.w X.K X.mg X.base k1 f1 sp1) (r1 : Room k1 X.A) (c2 : Cls X.K C2) (m2 : Meth X.K C2 m f2) (F2 : F0 X.prog X.w X.K X.mg X.base k2 f2 sp2) (r2 : Room k2 X.A)
    (ht : eval (.Call (.Attribute o m apos) [] [] pos) X.env = (do
      let ov ← eval o X.env
      standAt apos.atName
      let (f, first) ← holding [ov] (getMethod ov m pl)
      callWith pos f first (backTo pos (starEach [] X.env)) (backToKw pos (keywordEach [] X.env))) := by rfl) :
    PE X (.Call (.Attribute o m apos) [] [] pos) (tM2 C1 C2 m sp1 sp2 ta tNil) := by
  refine ⟨fun pins s σ H Q I h => ?_⟩
  refine PySem.W.methodCall_KW (pl := pl) (thn (he.run pins s σ H _ I h) fun u s1 ⟨x, H1, I1, rx, a, dx, fs, ex, l, q⟩ => ?_) ht
  subst ex
  obtain rfl : u = Value.ref a := rx
  rcases q with ⟨ea, q⟩ | ⟨ea, q⟩
  · refine getmeth_ok I1 ea c1 m1 l ?_
    exact PySem.W.callWith_K0 (first := [.ref a]) I1.kIn m1.kp (wpAny_call (run_fnR (us := [.ref a]) (vs := [.ref a]) F1 r1 pass0 I1 (.cons rfl .nil) q))
  · refine getmeth_ok I1 ea c2 m2 l ?_
    exact PySem.W.callWith_K0 (first := [.ref a]) I1.kIn m2.kp (wpAny_call (run_fnR (us := [.ref a]) (vs := [.ref a]) F2 r2 pass0 I1 (.cons rfl .nil) q))
end
/-! ### name = {k: v for ..} on one line, the name a local -/
theorem sw_trueD {kx vx : Expr} {gs : List Comprehension} {scope : Scope} {pos py : Pos} {y : Str} {l : Nat} {env : Env} (hk : env.scope.kind = .function) (hy : env.scope.names.lookup y = some .local) (hl : (py.line == pos.line) = true)
    (ha : (scope.names.any fun (n, k) => n == y && (k == .local || k == .cell)) = false) : swapsWith (.DictComp kx vx gs scope pos) (some (.Name y py)) l env = pure true := by
  have ky : env.kindOf y = some .local := hy
  have hb : env.blockKind = .function := by unfold Env.blockKind; rw [hk]; rfl
  unfold swapsWith
  simp only [hb, ky, ha, Expr.pos, hl]
  rfl
theorem ps_setDc {X : Cx} {i : Nat} {y : Str} {py : Pos} {kx vx tg iter : Expr} {ifs : List Expr} {scope : Scope} {own : List (Str × Nat)} {pos spos : Pos} {wi : TI} {g : TG} {tt : TT} {tk tv : TE} (hc : X.calm = true) (hN : X.N.Nodup) (hy : X.N[i]? = some y) (hyl : X.env.scope.names.lookup y = some .local)
    (hsw : swapsWith (.DictComp kx vx [⟨tg, iter, ifs, 0⟩] scope pos) (some (.Name y py)) spos.line X.env = pure true) (hi : PI X tg iter wi) (ok : BlkOk X.N X.env.scope scope own)
    (hg : ∀ (s : Shared) (H : Hp) (C : Addr) (cl : List (Str × Addr)) (fp : List Addr), PG (X.blk s H scope (compEnvC scope cl C X.env) fp) tg g) (ht : ∀ (s : Shared) (H : Hp) (C : Addr) (cl : List (Str × Addr)) (fp : List Addr), PTs (X.blk s H scope (compEnvC scope cl C X.env) fp) ifs tt)
    (hk : ∀ (s : Shared) (H : Hp) (C : Addr) (cl : List (Str × Addr)) (fp : List Addr), PE (X.blk s H scope (compEnvC scope cl C X.env) fp) kx tk)
    (he : ∀ (s : Shared) (H : Hp) (C : Addr) (cl : List (Str × Addr)) (fp : List Addr), PE (X.blk s H scope (compEnvC scope cl C X.env) fp) vx tv) (hs : ∀ x, foldedSetIterable iter X.env x = pure x := by intro _; rfl) :
    PS X (.Assign [.Name y py] (.DictComp kx vx [⟨tg, iter, ifs, 0⟩] scope pos) spos) (tAsg (tDc wi g tt tk tv (own.map (·.2))) (gName i)) := by
  refine ⟨fun pins s σ H D I h => ?_⟩
  rw [exec_Assign_Name_used _ _ _ _ hsw]
  refine wpAny_bind (wpAny_standAt (wpAny_bind ?_))
  show wpAny _ X.A (do let _ ← comprehension (.DictComp kx vx [⟨tg, iter, ifs, 0⟩] scope pos) scope X.env (firstIterPos [⟨tg, iter, ifs, 0⟩] pos) newDict false (eval iter X.env) (some (assign (.Name y py) X.env))) _ _ s
  have h : tDc wi g tt tk tv (own.map (·.2)) σ H (fun x H1 => gName i x σ H1 D.nx) := h
  refine wpAny_bind (thn (dc_core (Qf := fun _ s' => SP X pins D .next s') hc hN I hi ok hg ht hk he hs h fun L C s' m H' I' q hn f => ?_) fun _ s' hq => wpAny_pure (wpAny_pure hq))
  show wpAny _ _ (assign (.Name y py) X.env (.ref L)) _ _ _
  refine wpAny_assign_Name (store_ok2 (v := V.ref L) I' hN hy (.inl hyl) rfl (fun s2 I2 ⟨a, sb, ha⟩ => ?_) (.inr hyl))
  obtain ⟨f0, f1, f2, f3, f4, f5⟩ := f
  have haC : C ≠ a := by
    rcases ha with z | z
    · rw [z]; exact f1
    · exact fun e => f4 y a z e.symm
  refine ⟨m, hn.sameBut sb haC, fun h3 sb3 => ?_⟩
  exact ⟨_, H', I2.turned (t' := s2.toks) (fun b o hb e => (sb3.2 b hb).trans e) f0 f1 f3 f4 f5, q⟩

/-! ### t[::-1], a tuple -/
theorem fm_congr {α β : Type} {f g : α → Option β} : ∀ {l : List α}, (∀ a ∈ l, f a = g a) → l.filterMap f = l.filterMap g
  | [], _ => rfl
  | a :: l, h => by
    rw [List.filterMap_cons, List.filterMap_cons, h a List.mem_cons_self, fm_congr fun b hb => h b (List.mem_cons_of_mem _ hb)]
theorem rev_pick (xs : Array Value) : ((List.range xs.size).filterMap fun (m : Nat) => xs[(((xs.size : Int) - 1) + (m : Int) * (-1)).toNat]?).toArray = xs.toList.reverse.toArray := by
  congr 1
  have e : (List.range xs.size).filterMap (fun (m : Nat) => xs[(((xs.size : Int) - 1) + (m : Int) * (-1)).toNat]?) = (List.range xs.size).filterMap ((xs[·]?) ∘ fun m => xs.size - 1 - m) := by
    refine fm_congr fun m hm => ?_
    have hm := List.mem_range.mp hm
    have : (((xs.size : Int) - 1) + (m : Int) * (-1)).toNat = xs.size - 1 - m := by omega
    simp only [Function.comp, this]
  rw [e, ← List.filterMap_map, PySem.W.krv_range, List.filterMap_reverse, PySem.W.krv_all]
section
variable {prog : Program} {w : World} {A : Around} {E : Value → Shared → Prop} {s : Shared}
theorem getItem_tuple_rev {t sl : Addr} {items : Array Value} {vs : Value} {Q : Value → Shared → Prop} (ht : IsTup s.heap t items) (hs : s.heap.IsSliceOf sl .none .none vs) (ps : IsPart vs (some (-1)))
    (h : Q (.ref s.heap.objs.size) { s with heap := s.heap.push { cls := .type "tuple", data := .seq items.toList.reverse.toArray } }) (hsz : items.size ≤ sizeLine) : wpAny (model prog w) A (getItem (.ref t) (.ref sl)) Q E s := by
  have htake : sizeOk (.seq items.toList.reverse.toArray) := by
    show items.toList.reverse.toArray.size ≤ sizeLine
    rw [List.size_toArray, List.length_reverse, Array.length_toList]
    exact hsz
  obtain ⟨os, hos, hcs, hds⟩ := id hs
  have hTs : s.TypeIs (.ref sl) "slice" := ⟨os, hos, hcs⟩
  unfold getItem
  try with_reducible refine wpAny_holding ?_
  first | refine wpAny_bind (wpAny_pure ?_) | skip
  refine wpAny_bind (wpAny_sequenceKey ht.typeIs (by decide) ?_)
  refine wpAny_bind (wpAny_callSpecial?_slot (name := Str.ofString "__getitem__") ht.typeIs PyProof.Rows.slot_tuple_getitem
    (wpAny_call_entry PyProof.Rows.slot_tuple_getitem ht.typeIs entry_tuple_getitem ?_ (args_tuple_getitem _ _)))
  show wpAny _ _ (Builtin.Tuple.tupleItemsOf (.ref t) >>= _) _ _ s
  refine wpAny_bind (tupleItemsOf_ ht ?_)
  refine wpAny_bind (wpAny_typeOf hTs ?_)
  rw [if_pos (by decide)]
  refine wpAny_bind ?_
  unfold Builtin.Slice.sliceApplied Builtin.Slice.sliceFields
  refine wpAny_bind (wpAny_bind (wpAny_field hos hds (x := .none) rfl (wpAny_bind (wpAny_field hos hds (x := .none) rfl (wpAny_bind (wpAny_field hos hds (x := vs) rfl (wpAny_pure ?_)))))))
  refine wpAny_bind (HT.slicePart_ ps ?_)
  show wpAny _ _ (if ((-1 : Int) == 0) = true then _ else _) _ _ s
  rw [if_neg (by decide)]
  refine wpAny_bind (slicePart_none (wpAny_bind (slicePart_none (wpAny_bind (wpAny_pure ?_)))))
  have e1 : Builtin.Slice.sliceAdjust none none (-1) (items.size : Int) = ((items.size : Int) - 1, -1) := rfl
  have e2 : Builtin.Slice.slicePlaces ((items.size : Int) - 1) (-1) (-1) = items.size := by
    unfold Builtin.Slice.slicePlaces
    have h1 : ¬ ((-1 : Int) > 0) := by omega
    simp only [h1, if_false]
    have h3 : (- (-1 : Int)) = 1 := rfl
    rw [h3, Int.ediv_one]
    split <;> omega
  show wpAny _ _ (match Builtin.Slice.sliceAdjust none none (-1) (items.size : Int) with | (lo, hi) => pure (lo, (-1 : Int), Builtin.Slice.slicePlaces lo hi (-1))) _ _ s
  rw [e1]
  show wpAny _ _ (pure ((items.size : Int) - 1, (-1 : Int), Builtin.Slice.slicePlaces ((items.size : Int) - 1) (-1) (-1))) _ _ s
  rw [e2]
  refine wpAny_pure ?_
  have hno : ¬ ((((items.size : Int) - 1) == 0 && (-1 : Int) == 1 && items.size == items.size) = true) := by simp
  show wpAny _ _ (if (((items.size : Int) - 1) == 0 && (-1 : Int) == 1 && items.size == items.size) = true then _ else _) _ _ s
  rw [if_neg hno, rev_pick]
  first
    | exact wpAny_bind (m := Builtin.Tuple.tupleExact _) (wpAny_newObj_type (wpAny_pure ⟨_, rfl, wpAny_pure h⟩) htake)
    | exact wpAny_bind (m := Builtin.Tuple.tupleExact _) (wpAny_newObj_type (wpAny_bind (wpAny_pure (wpAny_pure ⟨_, rfl, wpAny_pure h⟩))) htake)
    | exact wpAny_bind (wpAny_bind (m := Builtin.Tuple.tupleExact _) (wpAny_newObj_type (wpAny_pure (wpAny_pure ⟨_, rfl, wpAny_pure h⟩)) htake))
    | exact wpAny_bind (wpAny_bind (m := Builtin.Tuple.tupleExact _) (wpAny_newObj_type (wpAny_pure ⟨_, rfl, wpAny_pure h⟩) htake))
end
def tRevT (te : TE) : TE := fun σ H Q => te σ H fun x H1 => ∃ a xs, x = .ref a ∧ H1 a = some (.tup xs) ∧ ∀ p, H1 p = none → Q (.ref p) (upd H1 p (.tup xs.reverse))
theorem pe_revT {X : Cx} {te : TE} {e : Expr} {k : Nat} {p1 p2 p3 pos : Pos} (he : PE X e te) : PE X (.Subscript e (.Slice none none (some (.UnaryOp .USub (.Constant (.int 1) k p1) p2)) p3) pos) (tRevT te) := by
  refine ⟨fun pins s σ H Q I h => ?_⟩
  refine Subscript_ (thn (he.run pins s σ H _ I h) fun v s1 ⟨x, H1, I1, r1, q1⟩ => ?_)
  obtain ⟨a, xs, ex, hx, q⟩ := q1
  subst ex
  cases r1
  have hst : PO X (some (.UnaryOp .USub (.Constant (.int 1) k p1) p2)) (tPart (tUn (rU fun i => .int (-i)) (tC (.int 1)))) := po_some (pe_un un_neg pe_int)
  refine wpAny_Slice (wpAny_pure ?_)
  refine wpAny_pure ?_
  refine thn (hst.run pins s1 σ H1 (fun o H4 => o = some (-1) ∧ H4 = H1) I1 ⟨1, rfl, -1, rfl, rfl, rfl⟩) fun vs s4 ⟨o, H4, I4, ps, eo, e4⟩ => ?_
  subst eo e4
  have I5 : Inv X pins σ H4 { s4 with heap := s4.heap.push { cls := .type "slice", data := .fields #[.none, .none, vs] } } := I4.kept (t' := s4.toks) fun b ob q => Heap.get?_push_of_some _ q
  obtain ⟨hz, its, r, ht⟩ := (show ObjOk X.prog X.w H4 (s4.heap.push { cls := .type "slice", data := .fields #[.none, .none, vs] }) a (.tup xs) from I5.hok a _ hx)
  have hlen := r.length
  show wpAny (model X.prog X.w) X.A (subscriptTail e (.Slice none none (some (.UnaryOp .USub (.Constant (.int 1) k p1) p2)) p3) (.ref a) (.ref s4.heap.objs.size)) (EP X pins σ Q) X.xe { s4 with heap := s4.heap.push { cls := .type "slice", data := .fields #[.none, .none, vs] } }
  refine tail_any (ops := [.ref a, .ref s4.heap.objs.size]) ht.typeIs (PyProof.Rows.slot_tuple_getitem.lookup) ?_ (by with_unfolding_all rfl)
  refine getItem_tuple_rev ht (Heap.IsSliceOf.new _ .none .none vs) ps ?_ (by rw [List.size_toArray]; omega)
  refine ⟨.ref _, _, I5.laid (t' := s4.toks) (o := .tup xs.reverse) (fun b ob q => Heap.get?_push_of_some _ q) (Nat.le_refl _) ?_, rfl, q _ (I5.hok.fresh (Nat.le_refl _))⟩
  exact ⟨by rw [List.length_reverse]; exact hz, _, r.reverse, IsTup.new _ _⟩
end RW
end

/-! ## E1 -/
section
set_option Elab.async false
set_option linter.all false
set_option maxRecDepth 100000
set_option maxHeartbeats 4000000
/-! enumerate over a tuple -/
namespace RW
open PySem PySem.Spec PyProof.Rows L2 GenW
open AutoSeq1 (wpAny_loadPart')
theorem meets_enumerate_newT (l : Addr) (items : Array Value) (n : Nat) (dct : Option Addr) (sl : Array (Option Value)) :
    Meets (Builtin.«enumerate.__new__» ⟨[.type "enumerate", .ref l], []⟩) (fun _ R s => s.heap.get? l = some { cls := .type "tuple", dict := dct, data := .seq items n, slots := sl } ∧
      R (.ok (.ret (.ref (s.heap.push { cls := .type "tuple_iterator", data := .fields #[.ref l, .int 0 0] }).objs.size)))
        { s with heap := (s.heap.push { cls := .type "tuple_iterator", data := .fields #[.ref l, .int 0 0] }).push { cls := .type "enumerate", data := .fields #[.none, .bool false, .ref s.heap.objs.size, rawInt 0, .none, .none] } }) :=
  .of_wp fun prog w A R s h => by
    obtain ⟨hp, g, d, tk, os⟩ := s; obtain ⟨hl, h⟩ := h
    have hsub := sub_enumerate
    have hL : IsTup (Shared.heap ⟨hp, g, d, tk, os⟩) l items := ⟨_, hl, rfl, n, rfl⟩
    wp_walk using wpAny_loadPart' hl
    refine wpAny_stack_any fun st => wpAny_pure ?_
    split
    · rename_i c _ _ _ _ _
      cases (c == Value.type "enumerate")
      · wp_walk using wpAny_loadPart' hl, iter_tuple hL
        exact ⟨_, rfl, h⟩
      · wp_walk using wpAny_loadPart' hl, iter_tuple hL
        exact ⟨_, rfl, h⟩
    · wp_walk using wpAny_loadPart' hl, iter_tuple hL
      exact ⟨_, rfl, h⟩
section
variable {prog : Program} {w : World} {A : Around} {E : Value → Shared → Prop} {s : Shared}
theorem call_enumerate_tup {l : Addr} {items : Array Value} {Q : Value → Shared → Prop} (hL : IsTup s.heap l items)
    (h : ∀ h', IsEnum h' (s.heap.objs.size + 1) s.heap.objs.size 0 .none → IsTupIter h' s.heap.objs.size l 0 → h'.objs.size = s.heap.objs.size + 2 →
      (∀ b o, s.heap.get? b = some o → h'.get? b = some o) → Q (.ref (s.heap.objs.size + 1)) { s with heap := h' }) :
    wpAny (model prog w) A (call (.type "enumerate") [.ref l]) Q E s := by
  obtain ⟨⟨c, dct, dt, sl⟩, hl, hc, n, hd⟩ := hL
  replace hc : c = .type "tuple" := hc
  replace hd : dt = .seq items n := hd
  subst hc hd
  refine callType_new F.called_enumerate (by decide) (F.typeCall_enumerate_1 _) (F.newCall_enumerate_1 _) (fun obj => F.args_object_init_2 obj _) F.entry_enumerate_new
    (meets_enumerate_newT l items n dct sl) ⟨hl, ?_⟩
  have hz : (s.heap.push { cls := .type "tuple_iterator", data := .fields #[.ref l, .int 0 0] }).objs.size = s.heap.objs.size + 1 := Heap.size_push ..
  show _ ∧ _
  rw [hz]
  have he : IsEnum ((s.heap.push { cls := .type "tuple_iterator", data := .fields #[.ref l, .int 0 0] }).push
      { cls := .type "enumerate", data := .fields #[.none, .bool false, .ref s.heap.objs.size, rawInt 0, .none, .none] }) (s.heap.objs.size + 1) s.heap.objs.size 0 .none := by
    have := Heap.get?_push_size (s.heap.push { cls := .type "tuple_iterator", data := .fields #[.ref l, .int 0 0] })
      (o := { cls := .type "enumerate", data := .fields #[.none, .bool false, .ref s.heap.objs.size, rawInt 0, .none, .none] }) rfl
    rw [hz] at this; exact this
  refine ⟨⟨_, he, rfl⟩, h _ he ⟨_, Heap.get?_push_of_some _ (Heap.get?_push_size _ rfl), rfl, rfl⟩ (by rw [Heap.size_push, hz]) fun b o x => Heap.get?_push_of_some _ (Heap.get?_push_of_some _ x)⟩
/-- the iterator of a tuple gives its items -/
theorem draws_tup {it a : Addr} {its : Array Value} (hh : A.handled = none) (hne : a ≠ it) : Draws prog w A it [it, a] its.size (fun i x => its[i]? = some x) (fun i h => IsTupIter h it a i ∧ IsTup h a its) where
  live := fun i h st => let ⟨⟨o, ho, _⟩, _⟩ := st; ⟨o, ho⟩
  frame := fun i h h' st k => let ⟨⟨o, ho, r⟩, ⟨o2, ho2, r2⟩⟩ := st; ⟨⟨o, k it (by simp) o ho, r⟩, ⟨o2, k a (by simp) o2 ho2, r2⟩⟩
  item := fun i s Q E hi st hQ => by
    obtain ⟨h1, h2⟩ := st
    unfold Builtin.SmallTypes.nextOf
    refine wpAny_bind (special_tup_item h1 h2 (x := its[i]) (by simp [hi]) fun h' h1' hs => wpAny_pure ?_)
    exact hQ _ h' s.toks (by simp [hi]) ⟨h1', let ⟨o, ho, r⟩ := h2; ⟨o, (hs.2 a hne).trans ho, r⟩⟩ hs
  done := fun s Q E st hE => by
    obtain ⟨h1, h2⟩ := st
    unfold Builtin.SmallTypes.nextOf
    refine wpAny_bind (special_tup_end hh h1 h2 (by simp) fun e h' hS hk => ?_)
    obtain ⟨b, o, vs, rfl, ho, hc, _⟩ := hS
    exact hE h' b hk ⟨o, ho, hc⟩
end
/-- the tuple xs at a, each item in a new pair -/
def ItT (a : Addr) (xs : List V) : It :=
  ⟨fun i H => H a = some (.tup xs) ∧ i < xs.length, fun i H v H' => ∃ T x, v = .ref T ∧ H T = none ∧ H' = upd H T (.tup [.int (i : Nat), x]) ∧ xs[i]? = some x, fun i H => H a = some (.tup xs) ∧ i = xs.length⟩
theorem turn_enumT {P : Program} {w : World} {K : PySem.W.Frag} {elts : List Expr} {kk : Nat} {tpos : Pos} {xs : List V} (a e it : Addr) :
    Turn P w K (.Tuple elts kk tpos) (ItT a xs)
      [e, it] e (fun i h => (∃ old, IsEnum h e it ((i : Nat) : Int) old) ∧ IsTupIter h it a i ∧ e ≠ it) where
  mem := by simp
  obj := fun i h st b hb => by
    obtain ⟨⟨old, he⟩, ⟨o, ho, hc, hd⟩, _⟩ := st
    have e' : b = e ∨ b = it := by simpa using hb
    rcases e' with z | z
    · rw [z]; exact ⟨_, he, fun v q => nomatch q⟩
    · rw [z]; exact ⟨o, ho, fun v q => by rw [hd] at q; cases q⟩
  keep := fun i h h' st k => let ⟨⟨old, he⟩, ⟨o, ho, r⟩, hne⟩ := st; ⟨⟨old, k e (by simp) _ he⟩, ⟨o, k it (by simp) o ho, r⟩, hne⟩
  item := by
    intro X hP hw hK hc i pins s σ H E I hf st hg
    subst hP hw hK
    obtain ⟨⟨old, he⟩, hit, hne⟩ := st
    obtain ⟨hq, hi⟩ := hg
    obtain ⟨hz, its, rv, p⟩ := (show ObjOk X.prog X.w H s.heap a (.tup xs) from I.hok a _ hq)
    have hx : xs[i]? = some xs[i] := by simp [hi]
    obtain ⟨u, hu, ru⟩ := rv.get hx
    have hel : e < s.heap.objs.size := Heap.lt_size he
    have hil : it < s.heap.objs.size := by obtain ⟨_, q, _⟩ := hit; exact Heap.lt_size q
    have nae : a ≠ e := ne_of_none hq (hf e (by simp)).1
    have nai : a ≠ it := ne_of_none hq (hf it (by simp)).1
    have hl := rv.length
    refine wpAny_pyNext_enum_itemD (draws_tup (I.ok.hd hc) nai) he ⟨hit, p⟩ (by simp; omega) hne (by simp [hne, Ne.symm nae]) fun x h' tk hPx ho st' hT hsz hk => ?_
    obtain ⟨hit', _⟩ := st'
    have hxu : x = u := by
      have q : its.toArray[i]? = some x := hPx
      rw [List.getElem?_toArray, hu] at q
      exact (Option.some.inj q).symm
    subst hxu
    refine ⟨_, rfl, wpAny_letOwnedTupleGo_enum (s := { s with heap := h', toks := tk + 1 }) ho fun h'' he' sb => ?_⟩
    have hT2 : h''.get? s.heap.objs.size = some { cls := .type "tuple", data := .seq #[.int i tk, x] } := (sb.2 _ (Nat.ne_of_gt hel)).trans hT
    have new : ObjOk X.prog X.w (upd H s.heap.objs.size (.tup [.int (i : Nat), xs[i]])) h'' s.heap.objs.size (.tup [.int (i : Nat), xs[i]]) :=
      ⟨by show 2 ≤ sizeLine; decide, [.int i tk, x], .cons ⟨_, rfl⟩ (.cons ru .nil), ⟨_, hT2, rfl, _, rfl⟩⟩
    have I1 : Inv X pins σ (upd H s.heap.objs.size (.tup [.int (i : Nat), xs[i]])) { s with heap := h'', toks := tk + 1 } :=
      I.turnedNew (ch := [e, it]) (fun b ob hb q => (sb.2 b (fun z => hb (by simp [z]))).trans (hk b ob (fun z => hb (by simp [z])) (fun z => hb (by simp [z])) q)) hf (Nat.le_refl _) new
    refine ⟨.ref s.heap.objs.size, _, I1, rfl, ⟨_, xs[i], rfl, I.hok.fresh (Nat.le_refl _), rfl, hx⟩, ⟨⟨x, ?_⟩, ?_, hne⟩, fun b hb => ?_⟩
    · have e1 : ((i + 1 : Nat) : Int) = (i : Int) + 1 := by omega
      rw [e1]; exact he'
    · obtain ⟨o, ho2, r⟩ := hit'
      exact ⟨o, (sb.2 it (Ne.symm hne)).trans ho2, r⟩
    · have hb' : b < s.heap.objs.size := by
        have e' : b = e ∨ b = it := by simpa using hb
        rcases e' with z | z
        · rw [z]; exact hel
        · rw [z]; exact hil
      rw [upd_ne (Nat.ne_of_lt hb')]
      exact (hf b hb).1
  done := by
    intro X hP hw hK hc i pins s σ H E I hf st hg
    subst hP hw hK
    obtain ⟨⟨old, he⟩, hit, hne⟩ := st
    obtain ⟨hq, hi⟩ := hg
    obtain ⟨hz, its, rv, p⟩ := (show ObjOk X.prog X.w H s.heap a (.tup xs) from I.hok a _ hq)
    obtain ⟨f0, f1, f2, f3, f4, f5⟩ := hf it (by simp)
    have hl := rv.length
    have nai : a ≠ it := ne_of_none hq f0
    subst hi
    refine wpAny_pyNext_enum_endD (draws_tup (its := its.toArray) (I.ok.hd hc) nai) he ⟨?_, p⟩ fun h' eb => ⟨rfl, I.turned (t' := s.toks) (fun b o hb q => eb b o hb q) f0 f1 f3 f4 f5⟩
    rw [List.size_toArray, ← hl]
    exact hit
  self := fun A i s Q E st h => let ⟨⟨_, he⟩, _⟩ := st; wpAny_pyIter_enum he h
def iEnumT (ta : TA) : TI := fun σ H R => ta σ H fun vs H1 => ∃ a xs, vs = [.ref a] ∧ H1 a = some (.tup xs) ∧ R (ItT a xs) H1
theorem pi_enumT {X : Cx} {e : Expr} {ta : TA} {p pos tpos : Pos} {elts : List Expr} {kk : Nat} (hm : X.mg "enumerate" = none) (ha : PA X [e] ta) (hg : Gl X "enumerate" := by rfl) (hs : starEach [e] X.env = [(false, eval e X.env)] := by rfl) :
    PI X (.Tuple elts kk tpos) (.Call (.Name "enumerate" p) [e] [] pos) (iEnumT ta) := by
  refine ⟨fun pins s σ H R I h => ?_⟩
  refine Call_ (ld_blt I hg hm boot_enumerate (PyProof.Rows.callWith_type1 (thn (ha.run pos pins s σ H _ I h) fun us s1 ⟨vs, H1, I1, r1, q1⟩ => ?_) hs rfl))
  obtain ⟨a, xs, ex, hq, q⟩ := q1
  subst ex
  cases r1 with
  | cons r rr =>
    cases rr
    cases r
    obtain ⟨hz, its, rv, p'⟩ := (show ObjOk X.prog X.w H1 s1.heap a (.tup xs) from I1.hok a _ hq)
    refine call_enumerate_tup p' fun h' he hit hsz hk => wpAny_pyIter_enum he ?_
    have I2 : Inv X pins σ H1 { s1 with heap := h' } := I1.kept (t' := s1.toks) hk
    refine ⟨s1.heap.objs.size + 1, [s1.heap.objs.size + 1, s1.heap.objs.size], _, _, H1, rfl, I2, turn_enumT a (s1.heap.objs.size + 1) s1.heap.objs.size, ⟨⟨.none, he⟩, hit, Nat.succ_ne_self _⟩, fun b hb => ?_, q⟩
    have e' : b = s1.heap.objs.size + 1 ∨ b = s1.heap.objs.size := by simpa using hb
    have hle : s1.heap.objs.size ≤ b := by
      rcases e' with z | z
      · rw [z]; exact Nat.le_add_right _ _
      · rw [z]; exact Nat.le_refl _
    exact I1.fpOk hle (I1.hok.fresh hle)
theorem walk_enumT {a : Addr} {xs : List V} : Walk (ItT a xs) xs.length (fun H => H a = some (.tup xs)) (YPair (fun i => some (.int (i : Nat))) (fun i => xs[i]?)) :=
  ⟨fun _ _ hi q => ⟨q, hi⟩, fun _ q => ⟨q, rfl⟩, fun i H v H' hi q y => let ⟨T, x, e, hT, eH, hx⟩ := y; ⟨T, _, x, e, hT, eH, rfl, hx⟩⟩
end RW
end

/-! ## E2 -/
section
set_option Elab.async false
set_option linter.all false
set_option maxRecDepth 100000
set_option maxHeartbeats 4000000
/-! != by object.__ne__ and an own __eq__ -/
namespace RW
open PySem PySem.Spec PyProof.Rows L2
section
variable {prog : Program} {w : World} {A : Around} {E : Value → Shared → Prop} {s : Shared} {K : PySem.W.Frag} {x y C f : Addr} {ox oy : Obj} {od oe : Option Obj}
open PySem.W in
theorem ne_call {Q : Value → Shared → Prop} (hu : A.in1.units < cLine) (X : K.In s.heap) (I : InstAt s.heap x ox C od) (hm : mroIn K C (.type "object") = some true) (hr : findIn K (.ref C) "__eq__" = some (some (.ref f))) (hf : isFn K (.ref f) = true)
    (h : wpAny (model prog w) A.in1 (call (.ref f) [.ref x, .ref y]) (fun v s' => ∃ b, v = .bool b ∧ Q (.bool (!b)) s') E s) : wpAny (model prog w) A (call (.builtin "object.__ne__") [.ref x, .ref y]) Q E s := by
  refine wpAny_call (codeAny_call_builtin (by decide +kernel) PySem.F.cmpEntry_ne (check_slot (i := "object.__ne__") (owner := "object") (n := "__ne__") (by decide +kernel) (by decide +kernel) (I.type.andThen (looks_mroIn X hm)) (PySem.F.cmpArgs_ne _ _) ?_))
  unfold Builtin.«object.__ne__»
  refine wpAny_bind (m := slotArgs "__ne__" 1 _) (wpAny_pure ?_)
  refine wpAny_bind (m := cRoomFor _ _) (wpAny_cRoomFor hu ?_)
  refine wpAny_bind (m := callSpecialIfBound? (.ref x) (Str.ofString "__eq__") _) (ifBound_K X I hr hf (wpAny_mono h (fun r s' hq => ?_) fun _ _ y => y))
  obtain ⟨b, rfl, q⟩ := hq
  show wpAny _ _ (truthy (.bool b) >>= _) _ _ _
  refine wpAny_bind (wpAny_truthy_bool ?_)
  exact wpAny_pure q
open PySem.W in
theorem ne_rich {Q : Value → Shared → Prop} (hu0 : A.units < cLine) (hu : A.in1.units < cLine) (X : K.In s.heap) (I : InstAt s.heap x ox C od) (J : InstAt s.heap y oy C oe) (hm : mroIn K C (.type "object") = some true) (hn : findIn K (.ref C) "__ne__" = some (some (.builtin "object.__ne__")))
    (hr : findIn K (.ref C) "__eq__" = some (some (.ref f))) (hf : isFn K (.ref f) = true)
    (h : wpAny (model prog w) A.in1 (call (.ref f) [.ref x, .ref y]) (fun v s' => ∃ b, v = .bool b ∧ Q (.bool (!b)) s') E s) : wpAny (model prog w) A (richCompare .NotEq (.ref x) (.ref y)) Q E s := by
  have bd : ∀ self, bindSpecial (.builtin "object.__ne__") self = pure (.builtin "object.__ne__", [self]) := PySem.F.slot_enumerate_ne.bind
  have one : wpAny (model prog w) A (tryCompare (.ref x) (cmpInfo .NotEq).2.1 (.ref y)) (fun r s' => ∃ v, r = some v ∧ Q v s') E s := by
    unfold tryCompare
    refine wpAny_bind (m := callSpecialIfBound? (.ref x) (cmpInfo .NotEq).2.1 _) ?_
    simp only [callSpecialIfBound?, bindSpecialIfBound?]
    refine wpAny_holding (wpAny_bind (wpAny_bind (wpAny_bind (I.type.here ((looks_findIn X hn).here ?_)))))
    refine wpAny_bind (wpAny_askSetting (wpAny_ite ?_))
    have fin : ∀ {P : Option Value → Shared → Prop}, (∀ b s', Q (.bool b) s' → P (some (.bool b)) s') → wpAny (model prog w) A (call (.builtin "object.__ne__") ([.ref x] ++ [.ref y]) >>= fun v => pure (some v)) P E s := fun hP =>
      wpAny_bind (ne_call hu X I hm hr hf (wpAny_mono h (fun v s' h' => by obtain ⟨b, e, q⟩ := h'; exact ⟨b, e, wpAny_pure (hP _ _ q)⟩) fun _ _ h' => h'))
    split
    · refine wpAny_bind ?_
      simp only [bd]
      exact wpAny_pure (wpAny_pure (by refine fin fun b s' q => ?_; show wpAny _ _ (pure (some (Value.bool b))) _ _ _; exact wpAny_pure ⟨_, rfl, q⟩))
    · refine wpAny_tryCatch (wpAny_bind ?_)
      simp only [bd]
      exact wpAny_pure (wpAny_pure (by refine fin fun b s' q => ?_; show wpAny _ _ (pure (some (Value.bool b))) _ _ _; exact wpAny_pure ⟨_, rfl, q⟩))
  unfold richCompare
  simp only [oneThing_ref]
  refine wpAny_holding (wpAny_bind (wpAny_cRoomFor hu0 ?_))
  refine wpAny_bind (I.type.here (wpAny_bind (J.type.here ?_)))
  rw [show (Value.ref C != Value.ref C) = false from by simp]
  simp only [Bool.false_eq_true, if_false]
  refine wpAny_bind (wpAny_pure ?_)
  simp only [Bool.false_eq_true, if_false]
  refine wpAny_bind (wpAny_mono one (fun r s' z => ?_) fun _ _ e => e)
  obtain ⟨v, rfl, hq⟩ := z
  exact wpAny_pure hq
end
section
variable {X : Cx} {k : Nat} {f C : Addr} {sp : Sp}
/-- a != b, both of one own class with an own __eq__ -/
theorem op_ne_own (hm : Meth X.K C "__eq__" f) (ht : PySem.W.mroIn X.K C (.type "object") = some true) (hn : PySem.W.findIn X.K (.ref C) "__ne__" = some (some (.builtin "object.__ne__"))) (F : F0 X.prog X.w X.K X.mg X.base k f sp) (hr : Room (k + 1) X.A) :
    OpR X (compareOp .NotEq) (fun x y H Q => ∃ p q dx dy fs gs, x = .ref p ∧ y = .ref q ∧ H p = some (.ins C dx fs) ∧ H q = some (.ins C dy gs) ∧ sp [x, y] H (fun v H' => ∃ b, v = .bl b ∧ Q (.bl (!b)) H') E0) := by
  intro pins s σ H x y v u Q I rx ry h
  obtain ⟨p, q, dx, dy, fs, gs, ex, ey, hp, hq, h⟩ := h
  subst ex ey
  obtain rfl : v = Value.ref p := rx
  obtain rfl : u = Value.ref q := ry
  obtain ⟨⟨m, F'⟩, ox, od, J⟩ := ins_fr I hp
  obtain ⟨_, oy, oe, J2⟩ := ins_fr I hq
  show wpAny (model X.prog X.w) X.A (richCompare .NotEq (.ref p) (.ref q)) (EP X pins σ Q) X.xe s
  refine ne_rich hr.units0 hr.in1.units0 I.kIn J J2 ht hn hm.at_ hm.fn (thn (run_in1 (vs := [.ref p, .ref q]) F hr I (.cons rfl (.cons rfl .nil)) h) fun w s' ⟨v, H', I', rv, b, ev, q'⟩ => ?_)
  subst ev
  obtain rfl : w = Value.bool b := rv
  exact ⟨b, rfl, .bl (!b), H', I', rfl, q'⟩
end
end RW
end

/-! ## T1 -/
section
set_option Elab.async false
set_option linter.all false
set_option maxRecDepth 100000
set_option maxHeartbeats 4000000
namespace RW
open PySem PySem.Spec PyProof.Rows L2
/-! printed by gen_txt.py: the text by places; what the top has written -/
def top (i : Nat) : Stmt := PySem.Challenge.pw_freetakes_k86_whole_plays_of_matches.main.body.getD i (.Pass ⟨0, 0, 0, 0⟩)
abbrev s_is_integer : Stmt := top 14
abbrev s_is_heap : Stmt := top 15
abbrev s_need_heap : Stmt := top 16
abbrev s_common_multiple : Stmt := top 17
abbrev s_first_move : Stmt := top 24
abbrev s_need_part : Stmt := top 30
abbrev s_are_worths : Stmt := top 46
abbrev s_shortest_turn : Stmt := top 47
abbrev s_least_form : Stmt := top 48
abbrev s_least_missing : Stmt := top 52
abbrev s_grown : Stmt := top 53
abbrev s_begin_of : Stmt := top 54
abbrev s_table_in : Stmt := top 55
abbrev s_table_of : Stmt := top 56
abbrev s_common_modulus : Stmt := top 60
abbrev s_in_order : Stmt := top 61
abbrev s_law_pen : Stmt := top 69
abbrev s_law_draw : Stmt := top 70
abbrev s_law_pick : Stmt := top 71
abbrev s_law_rule : Stmt := top 72
abbrev s_law_book : Stmt := top 74
abbrev s_law_rows : Stmt := top 75
abbrev s_law_heap : Stmt := top 76
abbrev s_law_pile : Stmt := top 77
abbrev s_law_heaps : Stmt := top 79
abbrev s_law_position : Stmt := top 80
abbrev s_law_play : Stmt := top 83
abbrev s_law_rounds_right : Stmt := top 84
abbrev s_law_first_rounds : Stmt := top 85
abbrev s_law_walked_right : Stmt := top 86
abbrev s_law_set : Stmt := top 87
abbrev s_law_lost_right : Stmt := top 88
abbrev s_law : Stmt := top 89
abbrev s_Laid_init : Stmt := inClass (top 19) 0
abbrev s_Position_init : Stmt := inClass (top 22) 1
abbrev s_Position_of : Stmt := inClass (top 22) 2
abbrev s_Position_its_worth : Stmt := inClass (top 22) 3
abbrev s_Position_wins : Stmt := inClass (top 22) 4
abbrev s_Position_moves : Stmt := inClass (top 22) 5
abbrev s_Position_winning : Stmt := inClass (top 22) 6
abbrev s_Position_after : Stmt := inClass (top 22) 7
abbrev s_Position_getitem : Stmt := inClass (top 22) 9
abbrev s_Position_eq : Stmt := inClass (top 22) 12
abbrev s_Match_init : Stmt := inClass (top 25) 0
abbrev s_Match_position : Stmt := inClass (top 25) 1
abbrev s_Match_past : Stmt := inClass (top 25) 2
abbrev s_Match_mover : Stmt := inClass (top 25) 3
abbrev s_Match_take : Stmt := inClass (top 25) 4
abbrev s_Match_leave_at : Stmt := inClass (top 25) 5
abbrev s_Match_winner : Stmt := inClass (top 25) 7
abbrev s_Match_rounds : Stmt := inClass (top 25) 8
abbrev s_Match_len : Stmt := inClass (top 25) 11
abbrev s_Match_setitem : Stmt := inClass (top 25) 14
abbrev s_Rested_init : Stmt := inClass (top 37) 0
abbrev s_Sized_init : Stmt := inClass (top 38) 0
abbrev s_Fixed_init : Stmt := inClass (top 39) 0
abbrev s_Fixed_stands_at : Stmt := inClass (top 39) 1
abbrev s_Fixed_left_at : Stmt := inClass (top 39) 2
abbrev s_Fixed_number_in_order : Stmt := inClass (top 39) 5
abbrev s_Down_init : Stmt := inClass (top 40) 0
abbrev s_Down_stands_at : Stmt := inClass (top 40) 1
abbrev s_Down_left_at : Stmt := inClass (top 40) 2
abbrev s_Down_number_in_order : Stmt := inClass (top 40) 4
abbrev s_Table_init : Stmt := inClass (top 51) 1
abbrev s_Table_worth_at : Stmt := inClass (top 51) 4
abbrev s_Table_getitem : Stmt := inClass (top 51) 7
abbrev s_Book_init : Stmt := inClass (top 63) 1
abbrev s_Book_of : Stmt := inClass (top 63) 2
abbrev s_Book_lefts : Stmt := inClass (top 63) 5
abbrev s_Book_takes : Stmt := inClass (top 63) 6
abbrev s_Book_as_table : Stmt := inClass (top 63) 8
abbrev s_Book_call : Stmt := inClass (top 63) 9
abbrev s_Pile_init : Stmt := inClass (top 66) 0
abbrev s_Pile_resized : Stmt := inClass (top 66) 1
abbrev s_Pile_its_worth : Stmt := inClass (top 66) 2
abbrev s_Pile_each_take : Stmt := inClass (top 66) 3
abbrev s_Pile_each_take_to : Stmt := inClass (top 66) 4
abbrev s_Pile_lets : Stmt := inClass (top 66) 5
abbrev s_Pile_sub : Stmt := inClass (top 66) 7
abbrev s_Pile_xor : Stmt := inClass (top 66) 11
abbrev s_Plain_init : Stmt := inClass (top 67) 0
abbrev s_Plain_resized : Stmt := inClass (top 67) 1
abbrev s_Plain_its_worth : Stmt := inClass (top 67) 2
abbrev s_Plain_each_take : Stmt := inClass (top 67) 3
abbrev s_Plain_each_take_to : Stmt := inClass (top 67) 4
abbrev s_Plain_lets : Stmt := inClass (top 67) 5
abbrev kLaid (K : PySem.W.Frag) : Addr := He.ga K "Laid"
abbrev kPosition (K : PySem.W.Frag) : Addr := He.ga K "Position"
abbrev kMatch (K : PySem.W.Frag) : Addr := He.ga K "Match"
abbrev kRule (K : PySem.W.Frag) : Addr := He.ga K "Rule"
abbrev kRested (K : PySem.W.Frag) : Addr := He.ga K "Rested"
abbrev kSized (K : PySem.W.Frag) : Addr := He.ga K "Sized"
abbrev kFixed (K : PySem.W.Frag) : Addr := He.ga K "Fixed"
abbrev kDown (K : PySem.W.Frag) : Addr := He.ga K "Down"
abbrev kTable (K : PySem.W.Frag) : Addr := He.ga K "Table"
abbrev kBook (K : PySem.W.Frag) : Addr := He.ga K "Book"
abbrev kPile (K : PySem.W.Frag) : Addr := He.ga K "Pile"
abbrev kPlain (K : PySem.W.Frag) : Addr := He.ga K "Plain"
abbrev a_is_integer (K : PySem.W.Frag) : Addr := He.ga K "is_integer"
abbrev a_is_heap (K : PySem.W.Frag) : Addr := He.ga K "is_heap"
abbrev a_need_heap (K : PySem.W.Frag) : Addr := He.ga K "need_heap"
abbrev a_common_multiple (K : PySem.W.Frag) : Addr := He.ga K "common_multiple"
abbrev a_first_move (K : PySem.W.Frag) : Addr := He.ga K "first_move"
abbrev a_need_part (K : PySem.W.Frag) : Addr := He.ga K "need_part"
abbrev a_are_worths (K : PySem.W.Frag) : Addr := He.ga K "are_worths"
abbrev a_shortest_turn (K : PySem.W.Frag) : Addr := He.ga K "shortest_turn"
abbrev a_least_form (K : PySem.W.Frag) : Addr := He.ga K "least_form"
abbrev a_least_missing (K : PySem.W.Frag) : Addr := He.ga K "least_missing"
abbrev a_grown (K : PySem.W.Frag) : Addr := He.ga K "grown"
abbrev a_begin_of (K : PySem.W.Frag) : Addr := He.ga K "begin_of"
abbrev a_table_in (K : PySem.W.Frag) : Addr := He.ga K "table_in"
abbrev a_table_of (K : PySem.W.Frag) : Addr := He.ga K "table_of"
abbrev a_common_modulus (K : PySem.W.Frag) : Addr := He.ga K "common_modulus"
abbrev a_in_order (K : PySem.W.Frag) : Addr := He.ga K "in_order"
abbrev a_law_pen (K : PySem.W.Frag) : Addr := He.ga K "_law_pen"
abbrev a_law_draw (K : PySem.W.Frag) : Addr := He.ga K "_law_draw"
abbrev a_law_pick (K : PySem.W.Frag) : Addr := He.ga K "_law_pick"
abbrev a_law_rule (K : PySem.W.Frag) : Addr := He.ga K "_law_rule"
abbrev a_law_book (K : PySem.W.Frag) : Addr := He.ga K "_law_book"
abbrev a_law_rows (K : PySem.W.Frag) : Addr := He.ga K "_law_rows"
abbrev a_law_heap (K : PySem.W.Frag) : Addr := He.ga K "_law_heap"
abbrev a_law_pile (K : PySem.W.Frag) : Addr := He.ga K "_law_pile"
abbrev a_law_heaps (K : PySem.W.Frag) : Addr := He.ga K "_law_heaps"
abbrev a_law_position (K : PySem.W.Frag) : Addr := He.ga K "_law_position"
abbrev a_law_play (K : PySem.W.Frag) : Addr := He.ga K "_law_play"
abbrev a_law_rounds_right (K : PySem.W.Frag) : Addr := He.ga K "_law_rounds_right"
abbrev a_law_first_rounds (K : PySem.W.Frag) : Addr := He.ga K "_law_first_rounds"
abbrev a_law_walked_right (K : PySem.W.Frag) : Addr := He.ga K "_law_walked_right"
abbrev a_law_set (K : PySem.W.Frag) : Addr := He.ga K "_law_set"
abbrev a_law_lost_right (K : PySem.W.Frag) : Addr := He.ga K "_law_lost_right"
abbrev a_law (K : PySem.W.Frag) : Addr := He.ga K "law"
abbrev a_Laid_init (K : PySem.W.Frag) : Addr := He.ma K (kLaid K) "__init__"
abbrev a_Position_init (K : PySem.W.Frag) : Addr := He.ma K (kPosition K) "__init__"
abbrev a_Position_of (K : PySem.W.Frag) : Addr := He5.wf K (kPosition K) "classmethod" "of"
abbrev a_Position_its_worth (K : PySem.W.Frag) : Addr := He.ma K (kPosition K) "its_worth"
abbrev a_Position_wins (K : PySem.W.Frag) : Addr := He.ma K (kPosition K) "wins"
abbrev a_Position_moves (K : PySem.W.Frag) : Addr := He.ma K (kPosition K) "moves"
abbrev a_Position_winning (K : PySem.W.Frag) : Addr := He.ma K (kPosition K) "winning"
abbrev a_Position_after (K : PySem.W.Frag) : Addr := He.ma K (kPosition K) "after"
abbrev a_Position_getitem (K : PySem.W.Frag) : Addr := He.ma K (kPosition K) "__getitem__"
abbrev a_Position_eq (K : PySem.W.Frag) : Addr := He.ma K (kPosition K) "__eq__"
abbrev a_Match_init (K : PySem.W.Frag) : Addr := He.ma K (kMatch K) "__init__"
abbrev a_Match_position (K : PySem.W.Frag) : Addr := He5.wf K (kMatch K) "property" "position"
abbrev a_Match_past (K : PySem.W.Frag) : Addr := He5.wf K (kMatch K) "property" "past"
abbrev a_Match_mover (K : PySem.W.Frag) : Addr := He5.wf K (kMatch K) "property" "mover"
abbrev a_Match_take (K : PySem.W.Frag) : Addr := He.ma K (kMatch K) "take"
abbrev a_Match_leave_at (K : PySem.W.Frag) : Addr := He.ma K (kMatch K) "leave_at"
abbrev a_Match_winner (K : PySem.W.Frag) : Addr := He.ma K (kMatch K) "winner"
abbrev a_Match_rounds (K : PySem.W.Frag) : Addr := He.ma K (kMatch K) "rounds"
abbrev a_Match_len (K : PySem.W.Frag) : Addr := He.ma K (kMatch K) "__len__"
abbrev a_Match_setitem (K : PySem.W.Frag) : Addr := He.ma K (kMatch K) "__setitem__"
abbrev a_Rested_init (K : PySem.W.Frag) : Addr := He.ma K (kRested K) "__init__"
abbrev a_Sized_init (K : PySem.W.Frag) : Addr := He.ma K (kSized K) "__init__"
abbrev a_Fixed_init (K : PySem.W.Frag) : Addr := He.ma K (kFixed K) "__init__"
abbrev a_Fixed_stands_at (K : PySem.W.Frag) : Addr := He.ma K (kFixed K) "stands_at"
abbrev a_Fixed_left_at (K : PySem.W.Frag) : Addr := He.ma K (kFixed K) "left_at"
abbrev a_Fixed_number_in_order (K : PySem.W.Frag) : Addr := He.ma K (kFixed K) "number_in_order"
abbrev a_Down_init (K : PySem.W.Frag) : Addr := He.ma K (kDown K) "__init__"
abbrev a_Down_stands_at (K : PySem.W.Frag) : Addr := He.ma K (kDown K) "stands_at"
abbrev a_Down_left_at (K : PySem.W.Frag) : Addr := He.ma K (kDown K) "left_at"
abbrev a_Down_number_in_order (K : PySem.W.Frag) : Addr := He.ma K (kDown K) "number_in_order"
abbrev a_Table_init (K : PySem.W.Frag) : Addr := He.ma K (kTable K) "__init__"
abbrev a_Table_worth_at (K : PySem.W.Frag) : Addr := He.ma K (kTable K) "worth_at"
abbrev a_Table_getitem (K : PySem.W.Frag) : Addr := He.ma K (kTable K) "__getitem__"
abbrev a_Book_init (K : PySem.W.Frag) : Addr := He.ma K (kBook K) "__init__"
abbrev a_Book_of (K : PySem.W.Frag) : Addr := He5.wf K (kBook K) "classmethod" "of"
abbrev a_Book_lefts (K : PySem.W.Frag) : Addr := He.ma K (kBook K) "lefts"
abbrev a_Book_takes (K : PySem.W.Frag) : Addr := He.ma K (kBook K) "takes"
abbrev a_Book_as_table (K : PySem.W.Frag) : Addr := He.ma K (kBook K) "as_table"
abbrev a_Book_call (K : PySem.W.Frag) : Addr := He.ma K (kBook K) "__call__"
abbrev a_Pile_init (K : PySem.W.Frag) : Addr := He.ma K (kPile K) "__init__"
abbrev a_Pile_resized (K : PySem.W.Frag) : Addr := He.ma K (kPile K) "resized"
abbrev a_Pile_its_worth (K : PySem.W.Frag) : Addr := He.ma K (kPile K) "its_worth"
abbrev a_Pile_each_take (K : PySem.W.Frag) : Addr := He.ma K (kPile K) "each_take"
abbrev a_Pile_each_take_to (K : PySem.W.Frag) : Addr := He.ma K (kPile K) "each_take_to"
abbrev a_Pile_lets (K : PySem.W.Frag) : Addr := He.ma K (kPile K) "lets"
abbrev a_Pile_sub (K : PySem.W.Frag) : Addr := He.ma K (kPile K) "__sub__"
abbrev a_Pile_xor (K : PySem.W.Frag) : Addr := He.ma K (kPile K) "__xor__"
abbrev a_Plain_init (K : PySem.W.Frag) : Addr := He.ma K (kPlain K) "__init__"
abbrev a_Plain_resized (K : PySem.W.Frag) : Addr := He.ma K (kPlain K) "resized"
abbrev a_Plain_its_worth (K : PySem.W.Frag) : Addr := He.ma K (kPlain K) "its_worth"
abbrev a_Plain_each_take (K : PySem.W.Frag) : Addr := He.ma K (kPlain K) "each_take"
abbrev a_Plain_each_take_to (K : PySem.W.Frag) : Addr := He.ma K (kPlain K) "each_take_to"
abbrev a_Plain_lets (K : PySem.W.Frag) : Addr := He.ma K (kPlain K) "lets"
/-- what isinstance asks of an own class -/
structure TyF (K : PySem.W.Frag) (C : Addr) : Prop where
  ha : PySem.W.findIn K (.ref C) "__class__" = some (some (.builtin "object.__class__"))
  hn : PySem.W.specialIn K (.builtin "object.__class__") "__get__" = some (some (.builtin "getset_descriptor.__get__"))
  htk : PySem.W.takesIn K (.builtin "object.__class__") = some true
  hm : PySem.W.mroIn K C (.type "object") = some true
/-- a def whose closure is the cell of its own class D, at cc -/
structure FunS (K : PySem.W.Frag) (x qual : Str) (params : Arguments) (body : List Stmt) (scope : Scope) (D f cc : Addr) (file : Str) : Prop where
  ex : ∃ (oc : Value) (od : Option Addr) (kV doc pm : Value) (an : Option Addr) (cda : Addr) (ct : Value) (osl : Array (Option Value)), K.lookup f = some ⟨oc, od, .func (PySem.W.ksFn x qual params body scope .none kV doc pm an (.ref cda) ct cc), osl⟩ ∧
    PySem.W.codeIn K (.ref cda) qual = true ∧ ∃ (ccl : Value) (cdd : Option Addr) (vs : Array Value) (ccs : Array (Option Value)) (tf : Tok), K.lookup cda = some ⟨ccl, cdd, .fields vs, ccs⟩ ∧ vs[2]? = some (.str file tf)
  cell : ∃ (cl : Value) (cld : Option Addr) (csl : Array (Option Value)), K.lookup cc = some ⟨cl, cld, .cell (some (.ref D)), csl⟩
  kp : PySem.W.keepIn K (.ref f) = true
/-- the closure's one cell -/
def clo (K : PySem.W.Frag) (f : Addr) : Addr := match K.lookup f with
  | some ⟨_, _, .func fd, _⟩ => (match fd.closure with
    | [(_, cc)] => cc
    | _ => 0)
  | _ => 0
abbrev FD (K : PySem.W.Frag) (x qual : Str) (st : Stmt) (dvs : List V) (f : Addr) : Prop := ∃ fd, FunD K x qual (defArgs st) (defBody st) (defScope st) dvs [] f fd
structure Txt (K : PySem.W.Frag) (mg : Str → Option Value) : Prop where
  z_isinstance : mg "isinstance" = none
  z_int : mg "int" = none
  z_bool : mg "bool" = none
  z_list : mg "list" = none
  z_tuple : mg "tuple" = none
  z_len : mg "len" = none
  z_range : mg "range" = none
  z_enumerate : mg "enumerate" = none
  z_sorted : mg "sorted" = none
  z_set : mg "set" = none
  z_max : mg "max" = none
  z_min : mg "min" = none
  z_all : mg "all" = none
  z_abs : mg "abs" = none
  z_super : mg "super" = none
  k_MOST_HEAP : ∃ t, mg "MOST_HEAP" = some (.int (10 ^ 30) t)
  k_MOST_PILES : ∃ t, mg "MOST_PILES" = some (.int (20) t)
  k_MOST_NUMBER : ∃ t, mg "MOST_NUMBER" = some (.int (400) t)
  k_MOST_MODULUS : ∃ t, mg "MOST_MODULUS" = some (.int (6) t)
  k_MOST_PARTS : ∃ t, mg "MOST_PARTS" = some (.int (1000) t)
  k_MOST_WORTH : ∃ t, mg "MOST_WORTH" = some (.int (400) t)
  k_FIRST_BOUND : ∃ t, mg "FIRST_BOUND" = some (.int (16) t)
  k_MOST_RULES : ∃ t, mg "MOST_RULES" = some (.int (400) t)
  k_MOST_COMMON : ∃ t, mg "MOST_COMMON" = some (.int (12) t)
  g_is_integer : mg "is_integer" = some (.ref (a_is_integer K))
  g_is_heap : mg "is_heap" = some (.ref (a_is_heap K))
  g_need_heap : mg "need_heap" = some (.ref (a_need_heap K))
  g_common_multiple : mg "common_multiple" = some (.ref (a_common_multiple K))
  g_first_move : mg "first_move" = some (.ref (a_first_move K))
  g_need_part : mg "need_part" = some (.ref (a_need_part K))
  g_are_worths : mg "are_worths" = some (.ref (a_are_worths K))
  g_shortest_turn : mg "shortest_turn" = some (.ref (a_shortest_turn K))
  g_least_form : mg "least_form" = some (.ref (a_least_form K))
  g_least_missing : mg "least_missing" = some (.ref (a_least_missing K))
  g_grown : mg "grown" = some (.ref (a_grown K))
  g_begin_of : mg "begin_of" = some (.ref (a_begin_of K))
  g_table_in : mg "table_in" = some (.ref (a_table_in K))
  g_table_of : mg "table_of" = some (.ref (a_table_of K))
  g_common_modulus : mg "common_modulus" = some (.ref (a_common_modulus K))
  g_in_order : mg "in_order" = some (.ref (a_in_order K))
  g_law_pen : mg "_law_pen" = some (.ref (a_law_pen K))
  g_law_draw : mg "_law_draw" = some (.ref (a_law_draw K))
  g_law_pick : mg "_law_pick" = some (.ref (a_law_pick K))
  g_law_rule : mg "_law_rule" = some (.ref (a_law_rule K))
  g_law_book : mg "_law_book" = some (.ref (a_law_book K))
  g_law_rows : mg "_law_rows" = some (.ref (a_law_rows K))
  g_law_heap : mg "_law_heap" = some (.ref (a_law_heap K))
  g_law_pile : mg "_law_pile" = some (.ref (a_law_pile K))
  g_law_heaps : mg "_law_heaps" = some (.ref (a_law_heaps K))
  g_law_position : mg "_law_position" = some (.ref (a_law_position K))
  g_law_play : mg "_law_play" = some (.ref (a_law_play K))
  g_law_rounds_right : mg "_law_rounds_right" = some (.ref (a_law_rounds_right K))
  g_law_first_rounds : mg "_law_first_rounds" = some (.ref (a_law_first_rounds K))
  g_law_walked_right : mg "_law_walked_right" = some (.ref (a_law_walked_right K))
  g_law_set : mg "_law_set" = some (.ref (a_law_set K))
  g_law_lost_right : mg "_law_lost_right" = some (.ref (a_law_lost_right K))
  g_law : mg "law" = some (.ref (a_law K))
  g_Laid : mg "Laid" = some (.ref (kLaid K))
  g_Position : mg "Position" = some (.ref (kPosition K))
  g_Match : mg "Match" = some (.ref (kMatch K))
  g_Rule : mg "Rule" = some (.ref (kRule K))
  g_Rested : mg "Rested" = some (.ref (kRested K))
  g_Sized : mg "Sized" = some (.ref (kSized K))
  g_Fixed : mg "Fixed" = some (.ref (kFixed K))
  g_Down : mg "Down" = some (.ref (kDown K))
  g_Table : mg "Table" = some (.ref (kTable K))
  g_Book : mg "Book" = some (.ref (kBook K))
  g_Pile : mg "Pile" = some (.ref (kPile K))
  g_Plain : mg "Plain" = some (.ref (kPlain K))
  f_is_integer : FD K "is_integer" "is_integer" s_is_integer [] (a_is_integer K)
  f_is_heap : FD K "is_heap" "is_heap" s_is_heap [] (a_is_heap K)
  f_need_heap : FD K "need_heap" "need_heap" s_need_heap [] (a_need_heap K)
  f_common_multiple : FD K "common_multiple" "common_multiple" s_common_multiple [] (a_common_multiple K)
  f_first_move : FD K "first_move" "first_move" s_first_move [] (a_first_move K)
  f_need_part : FD K "need_part" "need_part" s_need_part [] (a_need_part K)
  f_are_worths : FD K "are_worths" "are_worths" s_are_worths [] (a_are_worths K)
  f_shortest_turn : FD K "shortest_turn" "shortest_turn" s_shortest_turn [] (a_shortest_turn K)
  f_least_form : FD K "least_form" "least_form" s_least_form [] (a_least_form K)
  f_least_missing : FD K "least_missing" "least_missing" s_least_missing [] (a_least_missing K)
  f_grown : FD K "grown" "grown" s_grown [] (a_grown K)
  f_begin_of : FD K "begin_of" "begin_of" s_begin_of [] (a_begin_of K)
  f_table_in : FD K "table_in" "table_in" s_table_in [] (a_table_in K)
  f_table_of : FD K "table_of" "table_of" s_table_of [.int 1000] (a_table_of K)
  f_common_modulus : FD K "common_modulus" "common_modulus" s_common_modulus [] (a_common_modulus K)
  f_in_order : FD K "in_order" "in_order" s_in_order [] (a_in_order K)
  f_law_pen : FD K "_law_pen" "_law_pen" s_law_pen [] (a_law_pen K)
  f_law_draw : FD K "_law_draw" "_law_draw" s_law_draw [] (a_law_draw K)
  f_law_pick : FD K "_law_pick" "_law_pick" s_law_pick [] (a_law_pick K)
  f_law_rule : FD K "_law_rule" "_law_rule" s_law_rule [] (a_law_rule K)
  f_law_book : FD K "_law_book" "_law_book" s_law_book [] (a_law_book K)
  f_law_rows : FD K "_law_rows" "_law_rows" s_law_rows [] (a_law_rows K)
  f_law_heap : FD K "_law_heap" "_law_heap" s_law_heap [] (a_law_heap K)
  f_law_pile : FD K "_law_pile" "_law_pile" s_law_pile [] (a_law_pile K)
  f_law_heaps : FD K "_law_heaps" "_law_heaps" s_law_heaps [] (a_law_heaps K)
  f_law_position : FD K "_law_position" "_law_position" s_law_position [] (a_law_position K)
  f_law_play : FD K "_law_play" "_law_play" s_law_play [] (a_law_play K)
  f_law_rounds_right : FD K "_law_rounds_right" "_law_rounds_right" s_law_rounds_right [] (a_law_rounds_right K)
  f_law_first_rounds : FD K "_law_first_rounds" "_law_first_rounds" s_law_first_rounds [] (a_law_first_rounds K)
  f_law_walked_right : FD K "_law_walked_right" "_law_walked_right" s_law_walked_right [] (a_law_walked_right K)
  f_law_set : FD K "_law_set" "_law_set" s_law_set [] (a_law_set K)
  f_law_lost_right : FD K "_law_lost_right" "_law_lost_right" s_law_lost_right [] (a_law_lost_right K)
  f_law : FD K "law" "law" s_law [] (a_law K)
  f_Laid_init : FD K "__init__" "Laid.__init__" s_Laid_init [] (a_Laid_init K)
  f_Position_init : FD K "__init__" "Position.__init__" s_Position_init [] (a_Position_init K)
  f_Position_of : FD K "of" "Position.of" s_Position_of [] (a_Position_of K)
  f_Position_its_worth : FD K "its_worth" "Position.its_worth" s_Position_its_worth [] (a_Position_its_worth K)
  f_Position_wins : FD K "wins" "Position.wins" s_Position_wins [] (a_Position_wins K)
  f_Position_moves : FD K "moves" "Position.moves" s_Position_moves [] (a_Position_moves K)
  f_Position_winning : FD K "winning" "Position.winning" s_Position_winning [] (a_Position_winning K)
  f_Position_after : FD K "after" "Position.after" s_Position_after [] (a_Position_after K)
  f_Position_getitem : FD K "__getitem__" "Position.__getitem__" s_Position_getitem [] (a_Position_getitem K)
  f_Position_eq : FD K "__eq__" "Position.__eq__" s_Position_eq [] (a_Position_eq K)
  f_Match_init : FD K "__init__" "Match.__init__" s_Match_init [] (a_Match_init K)
  f_Match_position : FD K "position" "Match.position" s_Match_position [] (a_Match_position K)
  f_Match_past : FD K "past" "Match.past" s_Match_past [] (a_Match_past K)
  f_Match_mover : FD K "mover" "Match.mover" s_Match_mover [] (a_Match_mover K)
  f_Match_take : FD K "take" "Match.take" s_Match_take [] (a_Match_take K)
  f_Match_leave_at : FD K "leave_at" "Match.leave_at" s_Match_leave_at [] (a_Match_leave_at K)
  f_Match_winner : FD K "winner" "Match.winner" s_Match_winner [] (a_Match_winner K)
  f_Match_rounds : FD K "rounds" "Match.rounds" s_Match_rounds [] (a_Match_rounds K)
  f_Match_len : FD K "__len__" "Match.__len__" s_Match_len [] (a_Match_len K)
  f_Match_setitem : FD K "__setitem__" "Match.__setitem__" s_Match_setitem [] (a_Match_setitem K)
  f_Rested_init : FD K "__init__" "Rested.__init__" s_Rested_init [] (a_Rested_init K)
  f_Sized_init : FD K "__init__" "Sized.__init__" s_Sized_init [] (a_Sized_init K)
  f_Fixed_init : FD K "__init__" "Fixed.__init__" s_Fixed_init [.int 0, .int 1, .int 0] (a_Fixed_init K)
  f_Fixed_stands_at : FD K "stands_at" "Fixed.stands_at" s_Fixed_stands_at [] (a_Fixed_stands_at K)
  f_Fixed_left_at : FD K "left_at" "Fixed.left_at" s_Fixed_left_at [] (a_Fixed_left_at K)
  f_Fixed_number_in_order : FD K "number_in_order" "Fixed.number_in_order" s_Fixed_number_in_order [] (a_Fixed_number_in_order K)
  f_Down_init : FD K "__init__" "Down.__init__" s_Down_init [.int 0, .int 1] (a_Down_init K)
  f_Down_stands_at : FD K "stands_at" "Down.stands_at" s_Down_stands_at [] (a_Down_stands_at K)
  f_Down_left_at : FD K "left_at" "Down.left_at" s_Down_left_at [] (a_Down_left_at K)
  f_Down_number_in_order : FD K "number_in_order" "Down.number_in_order" s_Down_number_in_order [] (a_Down_number_in_order K)
  f_Table_init : FD K "__init__" "Table.__init__" s_Table_init [] (a_Table_init K)
  f_Table_worth_at : FD K "worth_at" "Table.worth_at" s_Table_worth_at [] (a_Table_worth_at K)
  f_Table_getitem : FD K "__getitem__" "Table.__getitem__" s_Table_getitem [] (a_Table_getitem K)
  f_Book_init : FD K "__init__" "Book.__init__" s_Book_init [] (a_Book_init K)
  f_Book_of : FD K "of" "Book.of" s_Book_of [] (a_Book_of K)
  f_Book_lefts : FD K "lefts" "Book.lefts" s_Book_lefts [] (a_Book_lefts K)
  f_Book_takes : FD K "takes" "Book.takes" s_Book_takes [] (a_Book_takes K)
  f_Book_as_table : FD K "as_table" "Book.as_table" s_Book_as_table [.int 1000] (a_Book_as_table K)
  f_Book_call : FD K "__call__" "Book.__call__" s_Book_call [] (a_Book_call K)
  f_Pile_init : FunS K "__init__" "Pile.__init__" (defArgs s_Pile_init) (defBody s_Pile_init) (defScope s_Pile_init) (kPile K) (a_Pile_init K) (clo K (a_Pile_init K)) PySem.Challenge.pw_freetakes_k86_whole_plays_of_matches.main.file
  f_Pile_resized : FD K "resized" "Pile.resized" s_Pile_resized [] (a_Pile_resized K)
  f_Pile_its_worth : FD K "its_worth" "Pile.its_worth" s_Pile_its_worth [] (a_Pile_its_worth K)
  f_Pile_each_take : FD K "each_take" "Pile.each_take" s_Pile_each_take [] (a_Pile_each_take K)
  f_Pile_each_take_to : FD K "each_take_to" "Pile.each_take_to" s_Pile_each_take_to [] (a_Pile_each_take_to K)
  f_Pile_lets : FD K "lets" "Pile.lets" s_Pile_lets [] (a_Pile_lets K)
  f_Pile_sub : FD K "__sub__" "Pile.__sub__" s_Pile_sub [] (a_Pile_sub K)
  f_Pile_xor : FD K "__xor__" "Pile.__xor__" s_Pile_xor [] (a_Pile_xor K)
  f_Plain_init : FunS K "__init__" "Plain.__init__" (defArgs s_Plain_init) (defBody s_Plain_init) (defScope s_Plain_init) (kPlain K) (a_Plain_init K) (clo K (a_Plain_init K)) PySem.Challenge.pw_freetakes_k86_whole_plays_of_matches.main.file
  f_Plain_resized : FD K "resized" "Plain.resized" s_Plain_resized [] (a_Plain_resized K)
  f_Plain_its_worth : FD K "its_worth" "Plain.its_worth" s_Plain_its_worth [] (a_Plain_its_worth K)
  f_Plain_each_take : FD K "each_take" "Plain.each_take" s_Plain_each_take [] (a_Plain_each_take K)
  f_Plain_each_take_to : FD K "each_take_to" "Plain.each_take_to" s_Plain_each_take_to [] (a_Plain_each_take_to K)
  f_Plain_lets : FD K "lets" "Plain.lets" s_Plain_lets [] (a_Plain_lets K)
  c_Position : Cls K (kPosition K)
  mk_Position : Mk K (kPosition K) (a_Position_init K)
  ty_Position : TyF K (kPosition K)
  n_Position_piles : NoAttr K (kPosition K) "piles"
  c_Match : Cls K (kMatch K)
  mk_Match : Mk K (kMatch K) (a_Match_init K)
  ty_Match : TyF K (kMatch K)
  n_Match_stand : NoAttr K (kMatch K) "stand"
  n_Match_done : NoAttr K (kMatch K) "done"
  c_Fixed : Cls K (kFixed K)
  mk_Fixed : Mk K (kFixed K) (a_Fixed_init K)
  ty_Fixed : TyF K (kFixed K)
  n_Fixed_size : NoAttr K (kFixed K) "size"
  n_Fixed_leave : NoAttr K (kFixed K) "leave"
  n_Fixed_rest : NoAttr K (kFixed K) "rest"
  n_Fixed_modulus : NoAttr K (kFixed K) "modulus"
  n_Fixed_start : NoAttr K (kFixed K) "start"
  n_Fixed_reach : NoAttr K (kFixed K) "reach"
  c_Down : Cls K (kDown K)
  mk_Down : Mk K (kDown K) (a_Down_init K)
  ty_Down : TyF K (kDown K)
  n_Down_rest : NoAttr K (kDown K) "rest"
  n_Down_modulus : NoAttr K (kDown K) "modulus"
  n_Down_to : NoAttr K (kDown K) "to"
  n_Down_start : NoAttr K (kDown K) "start"
  n_Down_reach : NoAttr K (kDown K) "reach"
  c_Table : Cls K (kTable K)
  mk_Table : Mk K (kTable K) (a_Table_init K)
  ty_Table : TyF K (kTable K)
  n_Table_begin : NoAttr K (kTable K) "begin"
  n_Table_period : NoAttr K (kTable K) "period"
  n_Table_numbers : NoAttr K (kTable K) "numbers"
  c_Book : Cls K (kBook K)
  mk_Book : Mk K (kBook K) (a_Book_init K)
  ty_Book : TyF K (kBook K)
  n_Book_modulus : NoAttr K (kBook K) "modulus"
  n_Book_rules : NoAttr K (kBook K) "rules"
  n_Book_start : NoAttr K (kBook K) "start"
  n_Book_reach : NoAttr K (kBook K) "reach"
  c_Pile : Cls K (kPile K)
  mk_Pile : Mk K (kPile K) (a_Pile_init K)
  ty_Pile : TyF K (kPile K)
  n_Pile_size : NoAttr K (kPile K) "size"
  n_Pile_book : NoAttr K (kPile K) "book"
  c_Plain : Cls K (kPlain K)
  mk_Plain : Mk K (kPlain K) (a_Plain_init K)
  ty_Plain : TyF K (kPlain K)
  n_Plain_size : NoAttr K (kPlain K) "size"
  n_Plain_book : NoAttr K (kPlain K) "book"
  m_Position_its_worth : Meth K (kPosition K) "its_worth" (a_Position_its_worth K)
  m_Position_wins : Meth K (kPosition K) "wins" (a_Position_wins K)
  m_Position_moves : Meth K (kPosition K) "moves" (a_Position_moves K)
  m_Position_winning : Meth K (kPosition K) "winning" (a_Position_winning K)
  m_Position_after : Meth K (kPosition K) "after" (a_Position_after K)
  m_Position_getitem : Meth K (kPosition K) "__getitem__" (a_Position_getitem K)
  m_Position_eq : Meth K (kPosition K) "__eq__" (a_Position_eq K)
  m_Match_take : Meth K (kMatch K) "take" (a_Match_take K)
  m_Match_leave_at : Meth K (kMatch K) "leave_at" (a_Match_leave_at K)
  m_Match_winner : Meth K (kMatch K) "winner" (a_Match_winner K)
  m_Match_rounds : Meth K (kMatch K) "rounds" (a_Match_rounds K)
  m_Match_len : Meth K (kMatch K) "__len__" (a_Match_len K)
  m_Match_setitem : Meth K (kMatch K) "__setitem__" (a_Match_setitem K)
  m_Fixed_stands_at : Meth K (kFixed K) "stands_at" (a_Fixed_stands_at K)
  m_Fixed_left_at : Meth K (kFixed K) "left_at" (a_Fixed_left_at K)
  m_Fixed_number_in_order : Meth K (kFixed K) "number_in_order" (a_Fixed_number_in_order K)
  m_Down_stands_at : Meth K (kDown K) "stands_at" (a_Down_stands_at K)
  m_Down_left_at : Meth K (kDown K) "left_at" (a_Down_left_at K)
  m_Down_number_in_order : Meth K (kDown K) "number_in_order" (a_Down_number_in_order K)
  m_Table_worth_at : Meth K (kTable K) "worth_at" (a_Table_worth_at K)
  m_Table_getitem : Meth K (kTable K) "__getitem__" (a_Table_getitem K)
  m_Book_lefts : Meth K (kBook K) "lefts" (a_Book_lefts K)
  m_Book_takes : Meth K (kBook K) "takes" (a_Book_takes K)
  m_Book_as_table : Meth K (kBook K) "as_table" (a_Book_as_table K)
  m_Book_call : Meth K (kBook K) "__call__" (a_Book_call K)
  m_Pile_resized : Meth K (kPile K) "resized" (a_Pile_resized K)
  m_Pile_its_worth : Meth K (kPile K) "its_worth" (a_Pile_its_worth K)
  m_Pile_each_take : Meth K (kPile K) "each_take" (a_Pile_each_take K)
  m_Pile_each_take_to : Meth K (kPile K) "each_take_to" (a_Pile_each_take_to K)
  m_Pile_lets : Meth K (kPile K) "lets" (a_Pile_lets K)
  m_Pile_sub : Meth K (kPile K) "__sub__" (a_Pile_sub K)
  m_Pile_xor : Meth K (kPile K) "__xor__" (a_Pile_xor K)
  m_Plain_resized : Meth K (kPlain K) "resized" (a_Plain_resized K)
  m_Plain_its_worth : Meth K (kPlain K) "its_worth" (a_Plain_its_worth K)
  m_Plain_each_take : Meth K (kPlain K) "each_take" (a_Plain_each_take K)
  m_Plain_each_take_to : Meth K (kPlain K) "each_take_to" (a_Plain_each_take_to K)
  m_Plain_lets : Meth K (kPlain K) "lets" (a_Plain_lets K)
  m_Plain_sub : Meth K (kPlain K) "__sub__" (a_Pile_sub K)
  m_Plain_xor : Meth K (kPlain K) "__xor__" (a_Pile_xor K)
  p_Match_position : PropOf K (kMatch K) "position" (He.ma K (kMatch K) "position") (a_Match_position K)
  p_Match_past : PropOf K (kMatch K) "past" (He.ma K (kMatch K) "past") (a_Match_past K)
  p_Match_mover : PropOf K (kMatch K) "mover" (He.ma K (kMatch K) "mover") (a_Match_mover K)
  r_Book : ClX.CRead K (kBook K) (.type "type")
  r_Position : ClX.CRead K (kPosition K) (.type "type")
  r_Sized : ClX.CRead K (kSized K) (.type "type")
  r_Rested : ClX.CRead K (kRested K) (.type "type")
  cm_Book_of : ClX.CMet K (kBook K) (.type "type") "of" (He.ma K (kBook K) "of") (a_Book_of K)
  cm_Position_of : ClX.CMet K (kPosition K) (.type "type") "of" (He.ma K (kPosition K) "of") (a_Position_of K)
  cv_Sized_init : ClX.CVal K (kSized K) (.type "type") "__init__" (.ref (a_Sized_init K)) (.ref (a_Sized_init K))
  cv_Rested_init : ClX.CVal K (kRested K) (.type "type") "__init__" (.ref (a_Rested_init K)) (.ref (a_Rested_init K))
  ki_Fixed_Rule : PySem.W.kitOne K (.ref (kFixed K)) (.ref (kRule K)) = some true
  ki_Down_Rule : PySem.W.kitOne K (.ref (kDown K)) (.ref (kRule K)) = some true
  ki_Pile_Laid : PySem.W.kitOne K (.ref (kPile K)) (.ref (kLaid K)) = some true
  ki_Plain_Laid : PySem.W.kitOne K (.ref (kPlain K)) (.ref (kLaid K)) = some true
  ki_Position_Position : PySem.W.kitOne K (.ref (kPosition K)) (.ref (kPosition K)) = some true
  ki_Book_Book : PySem.W.kitOne K (.ref (kBook K)) (.ref (kBook K)) = some true
  ki_Plain_Position : PySem.W.kitOne K (.ref (kPlain K)) (.ref (kPosition K)) = some false
  ki_Plain_Pile : PySem.W.kitOne K (.ref (kPlain K)) (.ref (kPile K)) = some true
  ki_Pile_Pile : PySem.W.kitOne K (.ref (kPile K)) (.ref (kPile K)) = some true
  nq_Position : PySem.W.noSeq K (kPosition K) = true
  nq_Table : PySem.W.noSeq K (kTable K) = true
  nq_Match : PySem.W.noSeq K (kMatch K) = true
  fi_Position_getitem : PySem.W.fnIn K (a_Position_getitem K) = true
  fi_Table_getitem : PySem.W.fnIn K (a_Table_getitem K) = true
  fi_Book_call : PySem.W.fnIn K (a_Book_call K) = true
  sf_Pile : PySem.W.selfFirst K (kPile K) = true
  rs_Pile : PySem.W.findIn K (.ref (kPile K)) "__rsub__" = some none
  su_Pile : PySem.W.subIn K (.type "int") (.ref (kPile K)) = some false
  sf_Plain : PySem.W.selfFirst K (kPlain K) = true
  rs_Plain : PySem.W.findIn K (.ref (kPlain K)) "__rsub__" = some none
  su_Plain : PySem.W.subIn K (.type "int") (.ref (kPlain K)) = some false
  is_ : ∃ fo, PySem.W.findIn K (.type "int") "__sub__" = some fo
  ir_ : ∃ ro, PySem.W.findIn K (.type "int") "__rsub__" = some ro
  up_Pile_Pile : PySem.W.ks_superIn K (kPile K) (kPile K) "__init__" = some (some (.ref (a_Laid_init K)))
  mr_Pile_Pile : PySem.W.mroIn K (kPile K) (.ref (kPile K)) = some true
  up_Plain_Pile : PySem.W.ks_superIn K (kPlain K) (kPile K) "__init__" = some (some (.ref (a_Laid_init K)))
  mr_Plain_Pile : PySem.W.mroIn K (kPlain K) (.ref (kPile K)) = some true
  up_Plain_Plain : PySem.W.ks_superIn K (kPlain K) (kPlain K) "__init__" = some (some (.ref (a_Pile_init K)))
  mr_Plain_Plain : PySem.W.mroIn K (kPlain K) (.ref (kPlain K)) = some true
  tf_Laid : PySem.W.typeIn K (.ref (a_Laid_init K)) = some (.type "function")
  tf_Pile : PySem.W.typeIn K (.ref (a_Pile_init K)) = some (.type "function")
  cl_Pile : ∃ cd, PySem.W.clsIn K (kPile K) = some cd
  cl_Plain : ∃ cd, PySem.W.clsIn K (kPlain K) = some cd
  op_ : PySem.W.nsIn K PySem.cStatics "thirdparty.any" = some none
  eq_Position : PySem.W.findIn K (.ref (kPosition K)) "__ne__" = some (some (.builtin "object.__ne__"))
  eqf_Position : PySem.W.findIn K (.ref (kPosition K)) "__eq__" = some (some (.ref (a_Position_eq K)))
end RW
end

/-! ## S1 -/
section
set_option Elab.async false
set_option linter.all false
set_option maxRecDepth 100000
set_option maxHeartbeats 4000000
/-! def __init__(self, ..): super().__init__(..); .. -/
namespace RW
open PySem PySem.Spec PyProof.Rows L2
/-- its scope: plain locals and the cell of the own class -/
structure ScS (N P : List Str) (sc : Scope) : Prop where
  kind : sc.kind = .function
  co : sc.isCoroutine = false
  gen : sc.isGenerator = false
  nd : N.Nodup
  pre : N.take P.length = P
  par : ∀ x ∈ P, sc.names.lookup x = some .local
  free : ∀ y ∈ sc.names, y.2 ≠ .cell ∧ (y.2 = .free → y.1 = ("__class__" : Str))
abbrev envS (qual : Str) (scope : Scope) (L f cda cc : Addr) : Env := PySem.W.ksEnv qual scope L f (.ref cda) cc
abbrev cxS (P : Program) (w : World) (K : PySem.W.Frag) (mg : Str → Option Value) (base : Heap) (N : List Str) (qual : Str) (scope : Scope) (f cda cc : Addr) (A : Around) (outer : List Env) (s : Shared) (H : Hp) : Cx where
  prog := P
  w := w
  K := K
  mg := mg
  base := base
  A := A.deeper (envS qual scope s.heap.objs.size f cda cc)
  N := N
  s_0 := s
  H_0 := H
  env := envS qual scope s.heap.objs.size f cda cc
  outer := outer
  stack := envS qual scope s.heap.objs.size f cda cc :: outer
  ex := []
  calm := true
  fn := fun _ => false
  pn := []
  xe := fun _ _ => False
theorem lk_one {x : Str} {v : Value} : ∀ {l : List (Str × Value)}, (x, v) ∈ l → (∀ v', (x, v') ∈ l → v' = v) → l.lookup x = some v
  | [], h, _ => by cases h
  | (y, u) :: r, h, hu => by
    by_cases e : x = y
    · subst e
      rw [hu u List.mem_cons_self]
      simp [List.lookup]
    · have e2 : (x == y) = false := by simpa using e
      rw [List.lookup_cons, e2]
      rcases List.mem_cons.mp h with q | q
      · cases q; exact absurd rfl e
      · exact lk_one q fun v' q => hu v' (List.mem_cons_of_mem _ q)
theorem zip_uniq : ∀ {P : List Str} {us : List Value} {x : Str} {v v' : Value}, P.Nodup → (x, v) ∈ P.zip us → (x, v') ∈ P.zip us → v' = v
  | [], _, _, _, _, _, h, _ => by simp at h
  | _ :: _, [], _, _, _, _, h, _ => by simp at h
  | p :: P, u :: us, x, v, v', nd, h, h' => by
    have n1 := (List.nodup_cons.mp nd).1
    rw [List.zip_cons_cons] at h h'
    rcases List.mem_cons.mp h with q | q <;> rcases List.mem_cons.mp h' with q' | q'
    · cases q; cases q'; rfl
    · cases q; exact absurd (List.of_mem_zip q').1 n1
    · cases q'; exact absurd (List.of_mem_zip q).1 n1
    · exact zip_uniq (List.nodup_cons.mp nd).2 q q'
theorem zip_mem : ∀ {P : List Str} {us : List Value} {i : Nat} {x : Str} {v : Value}, P[i]? = some x → us[i]? = some v → (x, v) ∈ P.zip us
  | [], _, _, _, _, h, _ => by simp at h
  | _ :: _, [], _, _, _, _, h => by simp at h
  | p :: P, u :: us, 0, x, v, h, h' => by simp at h h'; subst h h'; exact List.mem_cons_self
  | p :: P, u :: us, i + 1, x, v, h, h' => List.mem_cons_of_mem _ (zip_mem (i := i) (by simpa using h) (by simpa using h'))
section
variable {P : Program} {w : World} {K : PySem.W.Frag} {mg : Str → Option Value} {base : Heap} {N ps : List Str} {qual : Str} {scope : Scope} {f cda cc D : Addr} {A : Around} {outer : List Env} {s : Shared} {H : Hp} {us : List Value} {vs : List V} {h1 : Heap} {tk : Nat}
theorem inv_startS (S : ScS N ps scope) (hc : ∃ cl cld csl, K.lookup cc = some ⟨cl, cld, .cell (some (.ref D)), csl⟩) (hd : A.handled = none) (e0 : Env0 P w K mg base A outer s H) (hl : vs.length = ps.length) (r : Vals vs us)
    (hns : h1.Ns s.heap.objs.size (fun x => (ps.zip us).reverse.lookup x)) (hk : ∀ b o, s.heap.get? b = some o → h1.get? b = some o) :
    Inv (cxS P w K mg base N qual scope f cda cc A outer s H) [] (L2.start N vs) H { s with heap := h1, toks := tk } := by
  have hpl : ps.length ≤ N.length := by have := congrArg List.length S.pre; rw [List.length_take] at this; omega
  obtain ⟨cl, cld, csl, hcc⟩ := hc
  have hcb : base.get? cc = some ⟨cl, cld, .cell (some (.ref D)), csl⟩ := e0.mod.kin _ _ hcc
  have hcs := (e0.bs _ _ hcb).1
  have cone : ∀ x c, (cxS P w K mg base N qual scope f cda cc A outer s H).env.cells.lookup x = some c → x = ("__class__" : Str) ∧ c = cc := fun x c h => by
    have h : List.lookup x [(("__class__" : Str), cc)] = some c := h
    rw [List.lookup_cons] at h
    split at h
    · rename_i e
      exact ⟨beq_iff_eq.mp e, (Option.some.inj h).symm⟩
    · cases h
  have noA : ∀ b : Addr, b ∉ (cxS P w K mg base N qual scope f cda cc A outer s H).ex := fun b z => absurd (show b ∈ ([] : List Addr) from z) (by simp)
  refine ⟨⟨e0.mod, S.kind, rfl, rfl, Nat.le_refl _, fun y z c h1 h2 => ?_, fun y hy => ?_, fun y c h => Bool.noConfusion (show false = true from h), fun _ => hd, Around.frames_deeper e0.frames, .inr ⟨rfl, rfl⟩, fun b z => absurd z (noA b), e0.bs, e0.bsz, fun b _ _ => noA b, fun b z => absurd z (noA b), e0.funs, e0.frf⟩,
    rfl, e0.bare, Un.kept hk, ⟨_, hns, fun i y v h1 h2 h3 => ?_⟩, fun y c h => ?_, e0.hok.fresh (Nat.le_refl _), fun y c h => ?_, fun p hp => absurd (show p ∈ ([] : List (Addr × Obj)) from hp) (by simp), e0.hok.kept hk, ?_⟩
  · rw [(cone _ _ h1).1, (cone _ _ h2).1]
  · have hy : scope.names.lookup y = some .cell ∨ scope.names.lookup y = some .free := hy
    rcases hy with hy | hy
    · exact absurd rfl (S.free _ (PySem.mem_of_lookup hy)).1
    · have e := (S.free _ (PySem.mem_of_lookup hy)).2 rfl
      have e : y = ("__class__" : Str) := e
      subst e
      exact ⟨cc, rfl⟩
  · have hi : i < vs.length := by
      unfold L2.start at h2
      by_cases hi : i < vs.length
      · exact hi
      · rw [List.getElem?_append_right (by simpa using hi)] at h2
        rw [List.getElem?_replicate] at h2
        split at h2 <;> cases h2
    have ha : vs[i]? = some v := by
      unfold L2.start at h2
      rw [List.getElem?_append_left (by simpa using hi), List.getElem?_map] at h2
      cases e : vs[i]? with
      | none => rw [e] at h2; cases h2
      | some a => rw [e] at h2; cases h2; rfl
    obtain ⟨u, hu, rv⟩ := r.get ha
    have hp : ps[i]? = some y := by
      rw [← S.pre, List.getElem?_take_of_lt (by omega)]; exact h1
    have ndP : ps.Nodup := by rw [← S.pre]; exact S.nd.sublist (List.take_sublist _ _)
    have hm := zip_mem hp hu
    refine ⟨u, rv, .inl ⟨S.par y (List.mem_of_getElem? hp), ?_⟩⟩
    exact lk_one (List.mem_reverse.mpr hm) fun v' q => zip_uniq ndP hm (List.mem_reverse.mp q)
  · obtain ⟨_, rfl⟩ := cone _ _ h
    exact ⟨_, _, hk _ _ hcs, rfl⟩
  · obtain ⟨_, rfl⟩ := cone _ _ h
    exact (e0.bs _ _ hcb).2
  · unfold L2.start
    show _ = N.length
    rw [List.length_append, List.length_map, List.length_replicate]
    omega
/-- THE RULE -/
theorem fn_super {x file : Str} {params : Arguments} {rest : List Stmt} {k kG : Nat} {sp spG : Sp} {f2 : Addr} {ar : Arg} {e : Expr} {es : List Expr} {p0 p1 apos cpos epos : Pos} {pl : Sem Bool}
    (F : FunS K x qual params (.Expr (.Call (.Attribute (.Call (.Name "super" p0) [] [] p1) "__init__" apos) (e :: es) [] cpos) epos :: rest) scope D f cc file) (S : ScS N ps scope)
    (hpa : (params.posonlyargs ++ params.args).head? = some ar) (hp0 : ps[0]? = some ar.arg) (hks : scope.names.lookup ("super" : Str) = some .globalImplicit) (hkc : scope.names.lookup ("__class__" : Str) = some .free)
    (hmg : mg "super" = none) (hfile : ((P.main.file : Str) == file) = true) (htop : (P.main.scope.names.lookup ("super" : Str)).isSome = false) (hop : PySem.W.nsIn K PySem.cStatics "thirdparty.any" = some none)
    (hb : ∀ (kV doc pm : Value) (an : Option Addr) (cdv ct : Value) (us : List Value), us.length = ps.length → bindArgs (PySem.W.ksFn x qual params (.Expr (.Call (.Attribute (.Call (.Name "super" p0) [] [] p1) "__init__" apos) (e :: es) [] cpos) epos :: rest) scope .none kV doc pm an cdv ct cc) ⟨us, []⟩ = pure (ps.zip us))
    (hf2 : PySem.W.typeIn K (.ref f2) = some (.type "function")) (hfn : PySem.W.fnIn K f2 = true) (hkp : PySem.W.keepIn K (.ref f2) = true) (hDc : ∃ cd, PySem.W.clsIn K D = some cd)
    (G : F0 P w K mg base kG f2 spG) (len : ∀ vs H Q E, sp vs H Q E → vs.length = ps.length)
    (hsw : ∀ env : Env, swapsWith (.Call (.Attribute (.Call (.Name "super" p0) [] [] p1) "__init__" apos) (e :: es) [] cpos) none epos.line env = pure false)
    (hmc : ∀ env : Env, eval (.Call (.Attribute (.Call (.Name "super" p0) [] [] p1) "__init__" apos) (e :: es) [] cpos) env = (do
      let ov ← attributeBase (.Call (.Name "super" p0) [] [] p1) "__init__" env (eval (.Call (.Name "super" p0) [] [] p1) env)
      standAt apos.atName
      let (f, first) ← holding [ov] (getMethod ov "__init__" pl)
      callWith cpos f first (backTo cpos (starEach (e :: es) env)) []))
    (hst : ∀ env : Env, starEach (e :: es) env = (false, eval e env) :: starEach es env) (hpl : ∀ env : Env, (backTo cpos (starEach es env)).any (·.1) = false)
    (hbody : ∀ (cda : Addr) (A : Around) (outer : List Env) (s : Shared) (H : Hp) (vs : List V) (Q : VK) (E : XK), Room k (A.deeper (envS qual scope s.heap.objs.size f cda cc)) → sp vs H Q E →
      ∃ t tr, PA (cxS P w K mg base N qual scope f cda cc A outer s H) (e :: es) t ∧ PSs (cxS P w K mg base N qual scope f cda cc A outer s H) rest tr ∧ kG ≤ k ∧
        ∃ (a C dx : Addr) (fs : List (Str × V)) (ws : List V), vs = .ref a :: ws ∧ H a = some (.ins C dx fs) ∧ PySem.W.mroIn K C (.ref D) = some true ∧ PySem.W.ks_superIn K C D "__init__" = some (some (.ref f2)) ∧
          t (L2.start N vs) H (fun us H1 => spG (.ref a :: us) H1 (fun _ H2 => tr { nx := fun _ H' => Q .non H', rt := Q } (L2.start N vs) H2) E0)) :
    F0 P w K mg base (k + 1) f sp := by
  intro A outer s H us vs Q E hr e0 r hsp
  obtain ⟨⟨oc, od, kV, doc, pm, an, cda, ct, osl, lk, hcd, ccl, cdd, cvs, ccs, tf, hcode, hvs⟩, hcell, hkf⟩ := F
  have hl := len _ _ _ _ hsp
  have KX : K.In s.heap := e0.mod.kin.keeps fun b o e => (e0.bs b o e).1
  have lim : s.heap.NoLimit := e0.mod.nolimit.keeps fun b o e => (e0.bs b o e).1
  have hul : us.length = ps.length := by rw [← r.length]; exact hl
  refine ks_codeAny_call_defAt (fd := PySem.W.ksFn x qual params (.Expr (.Call (.Attribute (.Call (.Name "super" p0) [] [] p1) "__init__" apos) (e :: es) [] cpos) epos :: rest) scope .none kV doc pm an (.ref cda) ct cc) (body := .Expr (.Call (.Attribute (.Call (.Name "super" p0) [] [] p1) "__init__" apos) (e :: es) [] cpos) epos :: rest) (binds := ps.zip us)
    hr.depth (KX _ _ lk) rfl lim (PySem.W.codeRec_of KX hcd) rfl (.of_eq (hb kV doc pm an (.ref cda) ct us hul)) (fun y hy => (S.free y hy).1) (fun y hy => S.par y.1 (List.of_mem_zip hy).1) (fun h1 hns hk => ?_) S.co S.gen S.kind
  obtain ⟨t, tr, hPA, hPS, hkk, a, C, dx, fs, ws, rfl, ha, hmro, hsup, hq⟩ := hbody cda A outer s H vs Q E (hr.deeper _) hsp
  have I : Inv (cxS P w K mg base N qual scope f cda cc A outer s H) [] (L2.start N (.ref a :: ws)) H { s with heap := h1, toks := s.toks + (ps.zip us).length } := inv_startS S hcell hr.hd e0 hl r hns hk
  have hrX : Room k (cxS P w K mg base N qual scope f cda cc A outer s H).A := hr.deeper _
  show PySem.wpAt (model P w) (A.deeper (envS qual scope s.heap.objs.size f cda cc)) (.func _ (envS qual scope s.heap.objs.size f cda cc)) (execs _ (envS qual scope s.heap.objs.size f cda cc)) _ _ _
  refine ks_wpAt_execs_cons (ks_wpAt_Expr_any (ks_wpAt_MethodCall (pl := pl) ?_ (hmc _)) (by simp [interactive, S.kind]) (hsw _))
  have I1 := I
  obtain ⟨⟨mfr, hFr⟩, ox, oi, J⟩ := ins_fr I1 ha
  have KX1 := I1.kIn
  obtain ⟨m, hm, hl2⟩ := id I1.loc
  have hself : m ar.arg = some (.ref a) := by
    have hN0 : N[0]? = some ar.arg := by
      have e : (N.take ps.length)[0]? = ps[0]? := by rw [S.pre]
      rw [hp0] at e
      rw [List.getElem?_take] at e
      split at e
      · exact e
      · cases e
    obtain ⟨u, ru, lk⟩ := hl2 0 ar.arg (.ref a) hN0 rfl (.inl (S.par _ (List.mem_of_getElem? hp0)))
    obtain rfl : u = Value.ref a := ru
    rcases lk with ⟨_, z⟩ | ⟨z, _⟩
    · exact z
    · have hp := S.par _ (List.mem_of_getElem? hp0)
      have z : scope.names.lookup ar.arg = some .cell ∨ scope.names.lookup ar.arg = some .free := z
      rw [hp] at z
      rcases z with z | z <;> cases z
  obtain ⟨cdD, hcdD⟩ := hDc
  obtain ⟨oD, hD1, hD2⟩ : ∃ oD, h1.get? D = some oD ∧ oD.data = .cls cdD := by
    unfold PySem.W.clsIn at hcdD
    split at hcdD
    · rename_i c d cd' sl ho
      cases hcdD
      exact ⟨_, KX1 _ _ ho, rfl⟩
    · cases hcdD
  obtain ⟨cl, cld, csl, hcc⟩ := hcell
  obtain ⟨mb, hb1, hb2⟩ := e0.mod.blt
  refine ks_wpAt_super_base (env := envS qual scope s.heap.objs.size f cda cc) hks hkc (by decide) rfl (KX1 _ _ lk) rfl hpa rfl (KX1 _ _ hcode) rfl hvs hfile htop ?_
  refine PySem.W.ks_loadName_global S.kind hks (Calls.loadGlobal_builtin (env := envS qual scope s.heap.objs.size f cda cc) (e0.mod.glob.keeps I1.bk) hmg (hb1.keeps I1.bk) ((hb2 _ (by decide)).trans (by decide +kernel)) ⟨rfl, ?_⟩)
  refine wpAny_loadName_free S.kind hkc rfl ⟨_, KX1 _ _ hcc, rfl⟩ ?_
  refine wpAny_loadName_local S.kind (S.par _ (List.mem_of_getElem? hp0)) hm hself ?_
  refine ks_wpAny_isType_cls hD1 hD2 ⟨rfl, ?_⟩
  refine ks_wpAny_call_super hD1 hD2 J.at_ J.cls (fun c e => ?_) (PySem.W.looks_mroIn KX1 hmro) (fun h' e k => ?_)
  · have := J.no
    unfold PySem.W.notCls at this
    rw [e] at this
    exact Bool.noConfusion this
  · have I2 := ClX.pin_new (t' := s.toks + (ps.zip us).length) (o := PySem.W.ks_superObj D a C) I1 k (Nat.le_refl _) e (fun v z => nomatch z)
    obtain ⟨of, hof, hofc⟩ : ∃ of, h'.get? f2 = some of ∧ of.cls = .type "function" := by
      have ht' : (K.lookup f2).map (·.cls) = some (.type "function") := hf2
      cases z : K.lookup f2 with
      | none => rw [z] at ht'; cases ht'
      | some of => rw [z] at ht'; exact ⟨of, I2.kIn _ _ z, Option.some.inj ht'⟩
    cases hcl : PySem.W.clsIn K C with
    | none => unfold PySem.W.ks_superIn at hsup; rw [hcl] at hsup; cases hsup
    | some cd =>
      unfold PySem.W.ks_superIn at hsup
      rw [hcl] at hsup
      have KX2 : K.In h' := I2.kIn
      refine ks_wpAny_getMethod_super e (PySem.W.looks_opaque KX2 hop) (l₀ := cd.mro) (fun A Q E s k q => wpAny_bind ((PySem.W.looks_clsIn KX2 hcl) A _ E s k (wpAny_pure q))) rfl KX2 hsup hof hofc (PySem.W.ks_ne KX1 J hcl) (by decide) ?_
      have I3 := ClX.met_new (g := f2) (C := a) I2
      refine ClX.callwith_cm (C := a) (g := f2) I3 (ClX.base_none I2 (Nat.le_refl _)) hfn (wpAny_mono (hPA.run cpos _ _ _ _ _ I3 hq) (fun us2 s3 ⟨vs2, H2, I4, rv, q2⟩ => ⟨⟨ClX.pin_at I4, I4.kIn⟩, ?_⟩) fun _ _ z => False.elim z) (hst _) (hpl _)
      have fin := ClX.run_cm (C := a) (CX := CX0) (E := E0) G (hrX.mono hkk) pass0 I4 rv q2
      refine wpAny_mono fin (fun v s4 ⟨x4, H4, I5, r5, q5⟩ => ?_) fun _ _ z => False.elim z
      refine wpAt_of_wpAny (wpAny_mono (hPS.run _ s4 _ H4 _ I5 q5) (fun fl s' hs => ?_) fun _ _ z => False.elim z)
      have fin : ∀ {σ' : L2.St} {H' : Hp} {v : V} {u : Value} {pins : List (Addr × Obj)}, Inv (cxS P w K mg base N qual scope f cda cc A outer s H) pins σ' H' s' → RelV v u → Q v H' → CE outer P w H s Q u s' :=
        fun {σ' H' v u pins} J rv q => ⟨v, H', J.os, J.bare, J.base, J.hok, rv, q⟩
      cases fl with
      | ret u =>
        obtain ⟨v, σ', H', J, rv, q⟩ := hs
        exact fin J rv q
      | next =>
        obtain ⟨σ', H', J, q⟩ := hs
        exact fin (v := V.non) (u := Value.none) J rfl q
      | brk =>
        obtain ⟨_, _, _, q⟩ := hs
        exact False.elim q
      | cont =>
        obtain ⟨_, _, _, q⟩ := hs
        exact False.elim q
end
end RW
end

/-! ## F1 -/
section
set_option Elab.async false
set_option linter.all false
set_option maxRecDepth 100000
set_option maxHeartbeats 4000000
namespace RW
open PySem PySem.Spec PyProof.Rows L2
abbrev PP : Program := PySem.Challenge.pw_freetakes_k86_whole_plays_of_matches

section
variable {w : World} {K : PySem.W.Frag} {mg : Str → Option Value} {base : Heap}
/-- a def of the text, no defaults: its body -/
theorem fd_ok {x qual : Str} {st : Stmt} {f : Addr} {N ps : List Str} {k : Nat} {sp : Sp} (F : FD K x qual st [] f) (S : FnScope N ps (defScope st)) (len : ∀ vs H Q E, sp vs H Q E → vs.length = ps.length)
    (hb : ∀ (kV doc pm : Value) (an : Option Addr) (cdv ct : Value) (us : List Value), us.length = ps.length → bindArgs (PySem.W.fnOf x qual (defArgs st) (defBody st) (defScope st) .none kV doc pm an cdv ct) ⟨us, []⟩ = pure (ps.zip us))
    (hbody : ∀ (cdv : Value) (A : Around) (outer : List Env) (s : Shared) (H : Hp) (vs : List V) (Q : VK) (E : XK), Room k (A.deeper (envOfC qual (defScope st) s.heap.objs.size f cdv)) → sp vs H Q E →
      ∃ t, PSs (cxOf CX0 PP w K mg base N qual (defScope st) f cdv A outer s H E).nox (defBody st) t ∧ t { nx := fun _ H' => Q .non H', rt := Q } (start N vs) H) : F0 PP w K mg base (k + 1) f sp := by
  obtain ⟨fd, F⟩ := F
  have G := F.ok (P := PP) (w := w) (mg := mg) (base := base) (CX := CX0) S len fun cdv A outer s H vs Q E hr h => let ⟨t, h1, h2⟩ := hbody cdv A outer s H vs Q E hr h; ⟨t, h1.nox, h2⟩
  have b : Binds K fd ps [] := F.bindsN hb
  exact (G.raw b .nil).imp fun vs H Q E h => by rw [List.append_nil]; exact h
theorem FD.kp {x qual : Str} {st : Stmt} {f : Addr} {dvs : List V} (F : FD K x qual st dvs f) : PySem.W.keepIn K (.ref f) = true := let ⟨_, F⟩ := F; F.kp
end

/-- a reading's closure: it may be weakened -/
def mT (te : TE) : TE := fun σ H Q => ∃ Q0, te σ H Q0 ∧ ∀ x H1, Q0 x H1 → Q x H1
theorem pe_m {X : Cx} {e : Expr} {te : TE} (he : PE X e te) : PE X e (mT te) :=
  ⟨fun pins s σ H Q I ⟨Q0, h, hq⟩ => thn (he.run pins s σ H Q0 I h) fun u s1 ⟨x, H1, I1, r, q⟩ => ⟨x, H1, I1, r, hq _ _ q⟩⟩

section
variable {X : Cx} {e : Expr} {te : TE} {p q pos : Pos} {T : String} {c : Str} {C : Addr}
/-- isinstance(e, T), T a built-in class -/
def tIsT (K : PySem.W.Frag) (T : String) (te : TE) : TE := fun σ H Q => te σ H fun x H1 => ∃ t b, TyX K H1 x t ∧ PySem.W.kitOne K t (.type T) = some b ∧ Q (.bl b) H1
theorem c_isT (he : PE X e te) (hi : X.mg "isinstance" = none) (hc : X.mg c = none) (hv : bootBuiltins c = some (.type T)) (hg : Gl X "isinstance" := by rfl) (hgc : Gl X c := by rfl)
    (hpa : starEach [e, .Name c q] X.env = (false, eval e X.env) :: starEach [.Name c q] X.env := by rfl) (hpb : starEach [.Name c q] X.env = [(false, eval (.Name c q) X.env)] := by rfl) (hn : c ≠ "__name__" := by decide) (hd : (c == ("__debug__" : Str)) = false := by decide) :
    PE X (.Call (.Name "isinstance" p) [e, .Name c q] [] pos) (tIsT X.K T te) := by
  refine PE.imp (pe_callB call_isi hg hi boot_isinstance (pa_cons (pe_m he) (pa_cons (pe_bltn (v := .ty T) hgc hc hv rfl hn hd) pa_nil hpb) hpa) (by decide) (by decide) hpa (by rw [hpb]; rfl)) fun σ H Q h => ?_
  exact ⟨_, h, fun x H1 ⟨t, b, ty, kit, q⟩ => ⟨x, .ty T, t, .type T, b, rfl, .ty T, ty, kit, q⟩⟩
/-- isinstance(e, C), C an own class -/
def tIsC (K : PySem.W.Frag) (C : Addr) (te : TE) : TE := fun σ H Q => te σ H fun x H1 => ∃ t b, TyX K H1 x t ∧ PySem.W.kitOne K t (.ref C) = some b ∧ Q (.bl b) H1
theorem pe_cls (hm : X.mg c = some (.ref C)) (hg : Gl X c := by rfl) (hd : (c == ("__debug__" : Str)) = false := by decide) : PE X (.Name c q) (tC (.ref C)) := ⟨fun pins s σ H Q I h => ld_glob I hg hm ⟨.ref C, H, I, rfl, h⟩ hd⟩
theorem c_isC (he : PE X e te) (hi : X.mg "isinstance" = none) (hm : X.mg c = some (.ref C)) (hg : Gl X "isinstance" := by rfl) (hgc : Gl X c := by rfl)
    (hpa : starEach [e, .Name c q] X.env = (false, eval e X.env) :: starEach [.Name c q] X.env := by rfl) (hpb : starEach [.Name c q] X.env = [(false, eval (.Name c q) X.env)] := by rfl) (hd : (c == ("__debug__" : Str)) = false := by decide) :
    PE X (.Call (.Name "isinstance" p) [e, .Name c q] [] pos) (tIsC X.K C te) := by
  refine PE.imp (pe_callB call_isi hg hi boot_isinstance (pa_cons (pe_m he) (pa_cons (pe_cls hm hgc hd) pa_nil hpb) hpa) (by decide) (by decide) hpa (by rw [hpb]; rfl)) fun σ H Q h => ?_
  exact ⟨_, h, fun x H1 ⟨t, b, ty, kit, q⟩ => ⟨x, .ref C, t, .ref C, b, rfl, .own C, ty, kit, q⟩⟩
end
/-- the same of a test -/
def mTt (tt : TT) : TT := fun σ H Q => ∃ Q0, tt σ H Q0 ∧ ∀ b H1, Q0 b H1 → Q b H1
theorem pt_m {X : Cx} {e : Expr} {tt : TT} (he : PT X e tt) : PT X e (mTt tt) :=
  ⟨fun pins s σ H Q I ⟨Q0, h, hq⟩ => thn (he.run pins s σ H Q0 I h) fun b s1 ⟨H1, I1, q⟩ => ⟨H1, I1, hq _ _ q⟩⟩
theorem while_m {c : TT} {tb : TS} {D : Ends} {σ : L2.St} {H : Hp} (Pv : L2.St → Hp → Prop) (μ : L2.St → Hp → Nat) (h0 : Pv σ H)
    (hs : ∀ σ H, Pv σ H → c σ H fun b H1 => if b = true then tb { D with nx := fun σ' H' => Pv σ' H' ∧ μ σ' H' < μ σ H, ct := fun σ' H' => Pv σ' H' ∧ μ σ' H' < μ σ H, bk := D.nx } σ H1 else D.nx σ H1) : tWhile (mTt c) tb D σ H :=
  while_by Pv μ h0 (fun σ H p => ⟨_, hs σ H p, fun _ _ q => q⟩) fun σ H Q Q' hq ⟨Q0, h, h2⟩ => ⟨Q0, h, fun b H1 q => hq _ _ (h2 _ _ q)⟩
theorem vint {i j : Int} : (V.int i = V.int j) ↔ i = j := ⟨fun h => by cases h; rfl, fun h => by rw [h]⟩
theorem kit_ii {K : PySem.W.Frag} : PySem.W.kitOne K (.type "int") (.type "int") = some true := kit_ty (by decide +kernel)
theorem kit_ib {K : PySem.W.Frag} : PySem.W.kitOne K (.type "int") (.type "bool") = some false := kit_ty (by decide +kernel)

section
variable {w : World} {K : PySem.W.Frag} {mg : Str → Option Value} {base : Heap}
/-! ### checks -/
def spIsInt : Sp := fun vs H Q _ => ∃ a b c : Int, vs = [.int a, .int b, .int c] ∧ Q (.bl (decide (b ≤ a) && decide (a ≤ c))) H
theorem ok_is_integer (T : Txt K mg) : F0 PP w K mg base 1 (a_is_integer K) spIsInt := by
  have S : FnScope ["value", "least", "most"] ["value", "least", "most"] (defScope s_is_integer) := ⟨rfl, rfl, rfl, by decide +kernel, rfl, by decide +kernel, by decide +kernel⟩
  refine fd_ok T.f_is_integer S (fun vs H Q E h => ?_) (fun _ _ _ _ _ _ us hl => match us, hl with | [_, _, _], _ => rfl) (fun cdv A outer s H vs Q E hr h => ?_)
  · obtain ⟨a, b, c, rfl, _⟩ := h; rfl
  · obtain ⟨a, b, c, rfl, k⟩ := h
    refine ⟨_, pss_one (ps_ret (pe_and (c_isT (pv 0) T.z_isinstance T.z_int boot_int) (pe_and (pe_not (c_isT (pv 0) T.z_isinstance T.z_bool boot_bool)) (pe_one (pe_chain op_le op_le (pv 1) (pv 0) (pv 2)))))), ?_⟩
    refine ⟨_, rfl, _, _, .base (.int a), kit_ii, true, rfl, ?_⟩
    refine ⟨_, rfl, _, _, .base (.int a), kit_ib, _, rfl, _, rfl, ?_⟩
    refine ⟨_, rfl, _, rfl, _, _, rfl, rfl, ?_⟩
    refine ⟨decide (b ≤ a), rfl, ?_⟩
    cases e : decide (b ≤ a) with
    | false =>
      refine iteF ?_
      rw [e] at k
      exact k
    | true =>
      refine iteT ⟨_, rfl, _, _, rfl, rfl, ?_⟩
      rw [e] at k
      exact k
theorem bd {a b c : Int} (h : b ≤ a) (h2 : a ≤ c) : (decide (b ≤ a) && decide (a ≤ c)) = true := by simp [h, h2]
def heapMax : Int := 10 ^ 30
def spIsHeap : Sp := fun vs H Q _ => ∃ a : Int, vs = [.int a] ∧ Q (.bl (decide (0 ≤ a) && decide (a ≤ heapMax))) H
theorem ok_is_heap (T : Txt K mg) : F0 PP w K mg base 2 (a_is_heap K) spIsHeap := by
  have S : FnScope ["value"] ["value"] (defScope s_is_heap) := ⟨rfl, rfl, rfl, by decide +kernel, rfl, by decide +kernel, by decide +kernel⟩
  refine fd_ok T.f_is_heap S (fun vs H Q E h => ?_) (fun _ _ _ _ _ _ us hl => match us, hl with | [_], _ => rfl) (fun cdv A outer s H vs Q E hr h => ?_)
  · obtain ⟨a, rfl, _⟩ := h; rfl
  · obtain ⟨a, rfl, k⟩ := h
    obtain ⟨tk, hk⟩ := T.k_MOST_HEAP
    refine ⟨_, pss_one (ps_ret (c_call (ok_is_integer T) hr T.g_is_integer T.f_is_integer.kp (pa_cons (pv 0) (pa_cons pe_int (pa_cons (pe_glob (v := .int (10 ^ 30)) rfl hk ⟨_, rfl⟩) pa_nil))))), ?_⟩
    exact ⟨_, rfl, _, _, _, rfl, k⟩
def spNeedHeap : Sp := fun vs H Q _ => ∃ a : Int, vs = [.int a] ∧ 0 ≤ a ∧ a ≤ heapMax ∧ Q .non H
theorem ok_need_heap (T : Txt K mg) : F0 PP w K mg base 3 (a_need_heap K) spNeedHeap := by
  have S : FnScope ["value"] ["value"] (defScope s_need_heap) := ⟨rfl, rfl, rfl, by decide +kernel, rfl, by decide +kernel, by decide +kernel⟩
  refine fd_ok T.f_need_heap S (fun vs H Q E h => ?_) (fun _ _ _ _ _ _ us hl => match us, hl with | [_], _ => rfl) (fun cdv A outer s H vs Q E hr h => ?_)
  · obtain ⟨a, rfl, _⟩ := h; rfl
  · obtain ⟨a, rfl, h0, h1, k⟩ := h
    refine ⟨_, pss_one (ps_if (pt_not (pt_val (c_call (ok_is_heap T) hr T.g_is_heap T.f_is_heap.kp (pa_cons (pv 0) pa_nil)))) (pss_one ps_never) pss_nil), ?_⟩
    refine ⟨_, rfl, _, rfl, _, rfl, ?_⟩
    rw [bd h0 h1]
    exact iteF k
def spNeedPart : Sp := fun vs H Q _ => ∃ (a b c : Int) (p : V), vs = [.int a, .int b, .int c, p] ∧ b ≤ a ∧ a ≤ c ∧ Q .non H
theorem ok_need_part (T : Txt K mg) : F0 PP w K mg base 2 (a_need_part K) spNeedPart := by
  have S : FnScope ["value", "least", "most", "part"] ["value", "least", "most", "part"] (defScope s_need_part) := ⟨rfl, rfl, rfl, by decide +kernel, rfl, by decide +kernel, by decide +kernel⟩
  refine fd_ok T.f_need_part S (fun vs H Q E h => ?_) (fun _ _ _ _ _ _ us hl => match us, hl with | [_, _, _, _], _ => rfl) (fun cdv A outer s H vs Q E hr h => ?_)
  · obtain ⟨a, b, c, p, rfl, _⟩ := h; rfl
  · obtain ⟨a, b, c, p, rfl, h0, h1, k⟩ := h
    refine ⟨_, pss_one (ps_if (pt_not (pt_val (c_call (ok_is_integer T) hr T.g_is_integer T.f_is_integer.kp (pa_cons (pv 0) (pa_cons (pv 1) (pa_cons (pv 2) pa_nil)))))) (pss_one ps_never) pss_nil), ?_⟩
    refine ⟨_, rfl, _, rfl, _, rfl, _, _, _, rfl, _, rfl, ?_⟩
    rw [bd h0 h1]
    exact iteF k
def spCM : Sp := fun vs H Q _ => ∃ a b : Nat, vs = [.int a, .int b] ∧ 1 ≤ a ∧ 1 ≤ b ∧ Q (.int (Nat.lcm a b : Nat)) H
theorem ok_common_multiple (T : Txt K mg) : F0 PP w K mg base 1 (a_common_multiple K) spCM := by
  have S : FnScope ["one", "other", "found"] ["one", "other"] (defScope s_common_multiple) := ⟨rfl, rfl, rfl, by decide +kernel, rfl, by decide +kernel, by decide +kernel⟩
  refine fd_ok T.f_common_multiple S (fun vs H Q E h => ?_) (fun _ _ _ _ _ _ us hl => match us, hl with | [_, _], _ => rfl) (fun cdv A outer s H vs Q E hr h => ?_)
  · obtain ⟨a, b, rfl, _⟩ := h; rfl
  · obtain ⟨a, b, rfl, ha, hb, k⟩ := h
    refine ⟨_, pss_cons (ps_set (i := 2) S.nd rfl (.inl rfl) (pv 0)) (pss_cons (ps_while PassesOwn.never (pt_m (pt_cmpR op_ne (pe_op op_modN (pv 2) (pv 1)) pe_int (nomark _)))
      (pss_one (ps_set (i := 2) S.nd rfl (.inl rfl) (pe_op op_add (pv 2) (pv 0))))) (pss_one (ps_ret (pv 2)))), ?_⟩
    refine ⟨_, rfl, ?_⟩
    have hlp : 0 < Nat.lcm a b := Nat.lcm_pos ha hb
    refine while_m (fun σ' H' => ∃ j : Nat, σ' = [some (.int a), some (.int b), some (.int ((a * j : Nat) : Int))] ∧ 1 ≤ j ∧ a * j ≤ Nat.lcm a b ∧ H' = H) (fun σ' _ => match σ' with | [_, _, some (.int z)] => (Nat.lcm a b + 1) - z.toNat | _ => 0) ⟨1, by rw [Nat.mul_one]; rfl, Nat.le_refl _, by rw [Nat.mul_one]; exact Nat.le_of_dvd hlp (Nat.dvd_lcm_left a b), rfl⟩ ?_
    rintro σ' H' ⟨j, rfl, hj, hle, rfl⟩
    · refine ⟨_, rfl, _, rfl, _, _, rfl, rfl, by omega, rfl, _, rfl, ?_⟩
      have em : Int.fmod ((a * j : Nat) : Int) (b : Int) = (((a * j) % b : Nat) : Int) := by
        rw [Int.fmod_eq_emod_of_nonneg _ (by omega)]; rfl
      refine ite2 (fun hne => ?_) (fun he => ?_)
      · refine ⟨_, rfl, _, rfl, _, _, rfl, rfl, ⟨j + 1, ?_, by omega, ?_, rfl⟩, ?_⟩
        · rw [Nat.mul_succ]; rfl
        · have hnd : ¬ b ∣ a * j := fun hd => by
            have z : (a * j) % b = 0 := Nat.mod_eq_zero_of_dvd hd
            have q : ¬ (V.int (Int.fmod ((a * j : Nat) : Int) (b : Int)) = V.int 0) := by simpa using hne
            rw [em, z] at q
            exact q rfl
          obtain ⟨m, hm⟩ := Nat.dvd_lcm_left a b
          have hlt : j < m := by
            rcases Nat.lt_or_ge j m with q | q
            · exact q
            · exfalso
              have h2 : Nat.lcm a b ≤ a * j := by rw [hm]; exact Nat.mul_le_mul_left a q
              have h3 : a * j = Nat.lcm a b := Nat.le_antisymm hle h2
              exact hnd (h3 ▸ Nat.dvd_lcm_right a b)
          rw [hm]
          exact Nat.mul_le_mul_left a hlt
        · show Nat.lcm a b + 1 - Int.toNat (((a * j : Nat) : Int) + (a : Int)) < Nat.lcm a b + 1 - Int.toNat ((a * j : Nat) : Int)
          have e1 : Int.toNat (((a * j : Nat) : Int) + (a : Int)) = a * j + a := by omega
          have e2 : Int.toNat ((a * j : Nat) : Int) = a * j := by omega
          rw [e1, e2]
          omega
      · have hz : (a * j) % b = 0 := by
          cases q : (a * j) % b with
          | zero => rfl
          | succ m =>
            exfalso
            apply he
            have q2 : ¬ (V.int (Int.fmod ((a * j : Nat) : Int) (b : Int)) = V.int 0) := by
              rw [em, q, vint]; omega
            simpa using q2
        have hd : Nat.lcm a b ∣ a * j := Nat.lcm_dvd (Nat.dvd_mul_right a j) (Nat.dvd_of_mod_eq_zero hz)
        have hpos : 0 < a * j := Nat.mul_pos ha hj
        have h2 : a * j = Nat.lcm a b := Nat.le_antisymm hle (Nat.le_of_dvd hpos hd)
        refine ⟨_, rfl, ?_⟩
        rw [h2]
        exact k
end
end RW
end

/-! ## F34 -/
section
set_option Elab.async false
set_option linter.all false
set_option maxRecDepth 100000
set_option maxHeartbeats 4000000
namespace RW
open PySem PySem.Spec PyProof.Rows L2
/-! ### the head's facts -/
def tyB (K : PySem.W.Frag) (C : Addr) : Bool := decide (PySem.W.findIn K (.ref C) "__class__" = some (some (.builtin "object.__class__"))) && (decide (PySem.W.specialIn K (.builtin "object.__class__") "__get__" = some (some (.builtin "getset_descriptor.__get__"))) &&
  (decide (PySem.W.takesIn K (.builtin "object.__class__") = some true) && decide (PySem.W.mroIn K C (.type "object") = some true)))
theorem tyB_ok {K : PySem.W.Frag} {C : Addr} (h : tyB K C = true) : TyF K C := by
  obtain ⟨h1, h⟩ := He.ba h
  obtain ⟨h2, h⟩ := He.ba h
  obtain ⟨h3, h4⟩ := He.ba h
  exact ⟨of_decide_eq_true h1, of_decide_eq_true h2, of_decide_eq_true h3, of_decide_eq_true h4⟩
def mtB (K : PySem.W.Frag) (C : Addr) (m : Str) (f : Addr) : Bool := decide (PySem.W.findIn K (.ref C) m = some (some (.ref f))) && (PySem.W.isFn K (.ref f) && PySem.W.keepIn K (.ref f))
theorem mtB_ok {K : PySem.W.Frag} {C f : Addr} {m : Str} (h : mtB K C m f = true) : Meth K C m f := by
  obtain ⟨h1, h⟩ := He.ba h
  obtain ⟨h2, h3⟩ := He.ba h
  exact ⟨of_decide_eq_true h1, h2, h3⟩
def prB (K : PySem.W.Frag) (C : Addr) (m : Str) : Bool := decide (PySem.W.findIn K (.ref C) m = some (some (.ref (He.ma K C m)))) && (decide (PySem.W.specialIn K (.ref (He.ma K C m)) "__get__" = some (some (.builtin "property.__get__"))) && (decide (PySem.W.takesIn K (.ref (He.ma K C m)) = some true) &&
  (match PySem.W.recIn K (He.ma K C m) "property" with
    | some (.ref _ :: _) => true
    | _ => false)))
theorem prB_ok {K : PySem.W.Frag} {C : Addr} {m : Str} (h : prB K C m = true) : PropOf K C m (He.ma K C m) (He5.wf K C "property" m) := by
  obtain ⟨h1, h⟩ := He.ba h
  obtain ⟨h2, h⟩ := He.ba h
  obtain ⟨h3, h4⟩ := He.ba h
  refine ⟨of_decide_eq_true h1, of_decide_eq_true h2, of_decide_eq_true h3, ?_⟩
  unfold He5.wf
  split at h4
  · rename_i f r e
    exact ⟨r, by rw [e]⟩
  · cases h4
def rdB (K : PySem.W.Frag) (C : Addr) : Bool := PySem.W.readsIn K C (.type "type") && decide (PySem.W.specialIn K (.ref C) "__getattribute__" = some (some (.builtin "type.__getattribute__")))
theorem rdB_ok {K : PySem.W.Frag} {C : Addr} (h : rdB K C = true) : ClX.CRead K C (.type "type") := by
  obtain ⟨h1, h2⟩ := He.ba h
  exact ⟨h1, of_decide_eq_true h2⟩
/-- a def with the cell of its class -/
structure DefS where
  at_ : PySem.W.Frag → Addr
  cl : PySem.W.Frag → Addr
  name : Str
  qual : Str
  params : Arguments
  body : List Stmt
  scope : Scope
abbrev FnWS : Type := Option (Str × Str × Arguments × FuncBody × Scope × Addr × List Str × Value × Addr)
def fnS (K : PySem.W.Frag) (a : Addr) : FnWS := match K.lookup a with
  | some ⟨_, _, .func fd, _⟩ => some (fd.name, fd.qualname, fd.params, fd.body, fd.scope, fd.globals, fd.closure.map (·.1), fd.defaults, fd.builtins)
  | _ => none
def DefS.val (d : DefS) : FnWS := some (d.name, d.qual, d.params, .stmts d.body, d.scope, mainGlobals, ["__class__"], .none, builtinsNs)

def cvB (K : PySem.W.Frag) (C : Addr) (m : Str) (f : Addr) : Bool := match PySem.W.findCls K (.ref C) (.type "type") m with
  | some (.val (.ref a)) => decide (a = f)
  | _ => false
theorem cvB_ok {K : PySem.W.Frag} {C f : Addr} {m : Str} (h : cvB K C m f = true) : ClX.CVal K C (.type "type") m (.ref f) (.ref f) := by
  unfold cvB at h
  split at h
  · rename_i a e
    rw [of_decide_eq_true h] at e
    exact ⟨e, rfl⟩
  · cases h
def flB (K : PySem.W.Frag) (cd : Value) (q file : Str) : Bool := match cd with
  | .ref cda => PySem.W.codeIn K (.ref cda) q && (match K.lookup cda with
    | some ⟨_, _, .fields vs, _⟩ => (match (vs[2]? : Option Value) with
      | some (.str f _) => decide (f = file)
      | _ => false)
    | _ => false)
  | _ => false
theorem flB_ok {K : PySem.W.Frag} {cd : Value} {q file : Str} (h : flB K cd q file = true) : ∃ cda, cd = .ref cda ∧ PySem.W.codeIn K (.ref cda) q = true ∧ ∃ (ccl : Value) (cdd : Option Addr) (vs : Array Value) (ccs : Array (Option Value)) (tf : Tok), K.lookup cda = some ⟨ccl, cdd, .fields vs, ccs⟩ ∧ vs[2]? = some (.str file tf) := by
  unfold flB at h
  split at h
  · rename_i cda
    obtain ⟨h1, h⟩ := He.ba h
    split at h
    · rename_i ccl cdd vs ccs e
      split at h
      · rename_i f t e2
        rw [of_decide_eq_true h] at e2
        exact ⟨cda, rfl, h1, ccl, cdd, vs, ccs, t, e, e2⟩
      · cases h
    · cases h
  · cases h
def ceB (K : PySem.W.Frag) (cc D : Addr) : Bool := match K.lookup cc with
  | some ⟨_, _, .cell (some (.ref a)), _⟩ => decide (a = D)
  | _ => false
theorem ceB_ok {K : PySem.W.Frag} {cc D : Addr} (h : ceB K cc D = true) : ∃ (cl : Value) (cld : Option Addr) (csl : Array (Option Value)), K.lookup cc = some ⟨cl, cld, .cell (some (.ref D)), csl⟩ := by
  unfold ceB at h
  split at h
  · rename_i a b c e2 e
    rw [of_decide_eq_true h] at e
    exact ⟨_, _, _, e⟩
  · cases h
def DefS.ok (K : PySem.W.Frag) (d : DefS) : Bool := PySem.W.keepIn K (.ref (d.at_ K)) && ((match K.lookup (d.at_ K) with
  | some ⟨_, _, .func fd, _⟩ => flB K fd.code d.qual PP.main.file
  | _ => false) && ceB K (clo K (d.at_ K)) (d.cl K))
theorem DefS.funS {K : PySem.W.Frag} {d : DefS} (e : fnS K (d.at_ K) = d.val) (c : d.ok K = true) : FunS K d.name d.qual d.params d.body d.scope (d.cl K) (d.at_ K) (clo K (d.at_ K)) PP.main.file := by
  obtain ⟨kp, c⟩ := He.ba c
  obtain ⟨c2, c3⟩ := He.ba c
  refine ⟨?_, ceB_ok c3, kp⟩
  unfold fnS at e
  cases q : K.lookup (d.at_ K) with
  | none => rw [q] at c2; cases c2
  | some o =>
    obtain ⟨oc, od, dt, osl⟩ := o
    rw [q] at c2 e
    cases dt with
    | func fd =>
      obtain ⟨n1, n2, n3, n4, n5, n6, n7, n8, n9, n10, n11, n12, n13, n14, n15⟩ := fd
      have e2 : (some (n1, n2, n3, n4, n5, n6, n7.map (·.1), n8, n15) : FnWS) = (some (d.name, d.qual, d.params, FuncBody.stmts d.body, d.scope, mainGlobals, ["__class__"], Value.none, builtinsNs) : FnWS) := e
      simp only [Option.some.injEq, Prod.mk.injEq] at e2
      obtain ⟨h1, h2, h3, h4, h5, h6, h7, h8, h9⟩ := e2
      have c2 : flB K n13 d.qual PP.main.file = true := c2
      obtain ⟨cda, rfl, k1, k2⟩ := flB_ok c2
      subst h1 h2 h3 h4 h5 h6 h8 h9
      match n7, h7, q with
      | [(x, cc)], h7, q =>
        have hx : x = "__class__" := by injection h7
        subst hx
        have hc : clo K (d.at_ K) = cc := by unfold clo; rw [q]
        rw [hc]
        exact ⟨oc, od, n9, n10, n11, n12, cda, n14, osl, rfl, k1, k2⟩
    | _ => cases c2
abbrev AlS : Type := Bool × List He.FnW × List FnWS
def obsM (fa : List He.Fa) (ex : List (PySem.W.Frag → Bool)) (fn : List He5.DefA) (fs : List DefS) (K : PySem.W.Frag) : AlS :=
  ((fa.all fun f => f.ok K) && ((ex.all fun f => f K) && ((fn.all fun d => d.ok K) && fs.all fun d => d.ok K)), fn.map fun d => He5.fnA K (d.at_ K), fs.map fun d => fnS K (d.at_ K))
def valM (fn : List He5.DefA) (fs : List DefS) : AlS := (true, fn.map He5.DefA.val, fs.map DefS.val)
structure SaysM (fa : List He.Fa) (ex : List (PySem.W.Frag → Bool)) (fn : List He5.DefA) (fs : List DefS) (K : PySem.W.Frag) : Prop where
  eq : obsM fa ex fn fs K = valM fn fs
def hGl0 : List Str := ["is_integer", "is_heap", "need_heap", "common_multiple", "first_move", "need_part", "are_worths", "shortest_turn", "least_form", "least_missing", "grown", "begin_of", "table_in", "table_of", "common_modulus", "in_order", "_law_pen", "_law_draw", "_law_pick", "_law_rule"]
def hGl1 : List Str := ["_law_book", "_law_rows", "_law_heap", "_law_pile", "_law_heaps", "_law_position", "_law_play", "_law_rounds_right", "_law_first_rounds", "_law_walked_right", "_law_set", "_law_lost_right", "law", "Laid", "Position", "Match", "Rule", "Rested", "Sized", "Fixed"]
def hGl2 : List Str := ["Down", "Table", "Book", "Pile", "Plain"]
def hGl : List Str := hGl0 ++ hGl1 ++ hGl2
def hMe0 : List (Str × Str) := [("Laid", "__init__"), ("Position", "__init__"), ("Position", "its_worth"), ("Position", "wins"), ("Position", "moves"), ("Position", "winning"), ("Position", "after"), ("Position", "__getitem__"), ("Position", "__eq__"), ("Match", "__init__"), ("Match", "take"), ("Match", "leave_at"), ("Match", "winner"), ("Match", "rounds"), ("Match", "__len__"), ("Match", "__setitem__"), ("Rested", "__init__"), ("Sized", "__init__"), ("Fixed", "__init__"), ("Fixed", "stands_at")]
def hMe1 : List (Str × Str) := [("Fixed", "left_at"), ("Fixed", "number_in_order"), ("Down", "__init__"), ("Down", "stands_at"), ("Down", "left_at"), ("Down", "number_in_order"), ("Table", "__init__"), ("Table", "worth_at"), ("Table", "__getitem__"), ("Book", "__init__"), ("Book", "lefts"), ("Book", "takes"), ("Book", "as_table"), ("Book", "__call__"), ("Pile", "__init__"), ("Pile", "resized"), ("Pile", "its_worth"), ("Pile", "each_take"), ("Pile", "each_take_to"), ("Pile", "lets")]
def hMe2 : List (Str × Str) := [("Pile", "__sub__"), ("Pile", "__xor__"), ("Plain", "__init__"), ("Plain", "resized"), ("Plain", "its_worth"), ("Plain", "each_take"), ("Plain", "each_take_to"), ("Plain", "lets"), ("Position", "of"), ("Match", "position"), ("Match", "past"), ("Match", "mover"), ("Book", "of")]
def hMe : List (Str × Str) := hMe0 ++ hMe1 ++ hMe2
def outs (g : Addr → Option Obj) (a : Addr) : List Addr := match g a with
  | some ⟨_, _, .func fd, _⟩ => He.refV fd.code ++ (He.refV fd.defaults ++ fd.closure.map (·.2))
  | some ⟨_, _, .fields vs, _⟩ => vs.toList.flatMap He.refV
  | _ => []
def outs2 (g : Addr → Option Obj) (a : Addr) : List Addr := match g a with
  | some ⟨_, _, .func fd, _⟩ => He.refV fd.code ++ (He.refV fd.defaults ++ fd.closure.map (·.2))
  | _ => []
def nsOf (g : Addr → Option Obj) (a : Addr) : List Addr := match g a with
  | some ⟨_, _, .cls cd, _⟩ => [cd.ns]
  | _ => []
def as1 (g : Addr → Option Obj) : List Addr := hGl.map (He.ga (He.frG g [mainGlobals]))
def as2 (g : Addr → Option Obj) : List Addr := mainGlobals :: (as1 g ++ (as1 g).flatMap (nsOf g))
def as3 (g : Addr → Option Obj) : List Addr := hMe.map fun q => He.ma (He.frG g (as2 g)) (He.ga (He.frG g [mainGlobals]) q.1) q.2
def as4 (g : Addr → Option Obj) : List Addr := (as1 g ++ as3 g).flatMap (outs g)
def asM (g : Addr → Option Obj) (_ : Nat) : List Addr := cStatics :: (as2 g ++ (as3 g ++ (as4 g ++ (as4 g).flatMap (outs2 g))))
def obsMG (n : Nat) (fa : List He.Fa) (ex : List (PySem.W.Frag → Bool)) (fn : List He5.DefA) (fs : List DefS) (g : Addr → Option Obj) : AlS := obsM fa ex fn fs (He.frG g (asM g n))
def hookM (n : Nat) (fa : List He.Fa) (ex : List (PySem.W.Frag → Bool)) (fn : List He5.DefA) (fs : List DefS) : PySem.W.Hook where
  α := AlS
  obs := fun s => obsMG n fa ex fn fs s.heap.get?
  val := fun _ => valM fn fs
  says := fun _ h => ∃ K : PySem.W.Frag, K.In h ∧ SaysM fa ex fn fs K
  of := fun _ _ e => ⟨_, He.frG_in, ⟨e⟩⟩
  keeps := fun _ _ _ ⟨K, hK, c⟩ k => ⟨K, PySem.W.Frag.In.keeps hK k, c⟩
theorem obsMG_eq {n : Nat} {fa : List He.Fa} {ex : List (PySem.W.Frag → Bool)} {fn : List He5.DefA} {fs : List DefS} {g : Addr → Option Obj} {s : Shared} (h : ∀ a, g a = s.heap.get? a) : obsMG n fa ex fn fs g = (hookM n fa ex fn fs).obs s := by
  have e : g = s.heap.get? := funext h
  rw [e] <;> rfl
section
variable {fa : List He.Fa} {ex : List (PySem.W.Frag → Bool)} {fn : List He5.DefA} {fs : List DefS} {K : PySem.W.Frag}
theorem SaysM.all (c : SaysM fa ex fn fs K) : ((fa.all fun f => f.ok K) && ((ex.all fun f => f K) && ((fn.all fun d => d.ok K) && fs.all fun d => d.ok K))) = true := congrArg (fun z : AlS => z.1) c.eq
theorem SaysM.fact (c : SaysM fa ex fn fs K) (i : Nat) {f : He.Fa} (h : fa[i]? = some f := by rfl) : f.ok K = true := List.all_eq_true.mp (He.ba c.all).1 f (List.mem_of_getElem? h)
theorem SaysM.ex_ (c : SaysM fa ex fn fs K) (i : Nat) {f : PySem.W.Frag → Bool} (h : ex[i]? = some f := by rfl) : f K = true := List.all_eq_true.mp (He.ba (He.ba c.all).2).1 f (List.mem_of_getElem? h)
theorem SaysM.def_ (c : SaysM fa ex fn fs K) (i : Nat) {d : He5.DefA} (h : fn[i]? = some d := by rfl) : ∃ fd, L2.FunD K d.name d.qual d.params d.body d.scope (d.dvs K) (d.kws K) (d.at_ K) fd := by
  have c2 := (He.ba (He.ba (He.ba c.all).2).2).1
  have e : fn.map (fun d => He5.fnA K (d.at_ K)) = fn.map He5.DefA.val := congrArg (fun z : AlS => z.2.1) c.eq
  have e2 : (fn.map fun d => He5.fnA K (d.at_ K))[i]? = (fn.map He5.DefA.val)[i]? := by rw [e]
  rw [List.getElem?_map, List.getElem?_map, h] at e2
  exact He5.DefA.funD (Option.some.inj e2) (List.all_eq_true.mp c2 d (List.mem_of_getElem? h))
theorem SaysM.funS (c : SaysM fa ex fn fs K) (i : Nat) {d : DefS} (h : fs[i]? = some d := by rfl) : FunS K d.name d.qual d.params d.body d.scope (d.cl K) (d.at_ K) (clo K (d.at_ K)) PP.main.file := by
  have c2 := (He.ba (He.ba (He.ba c.all).2).2).2
  have e : fs.map (fun d => fnS K (d.at_ K)) = fs.map DefS.val := congrArg (fun z : AlS => z.2.2) c.eq
  have e2 : (fs.map fun d => fnS K (d.at_ K))[i]? = (fs.map DefS.val)[i]? := by rw [e]
  rw [List.getElem?_map, List.getElem?_map, h] at e2
  exact DefS.funS (Option.some.inj e2) (List.all_eq_true.mp c2 d (List.mem_of_getElem? h))
end

def hFa : List He.Fa := [.free "isinstance",
  .free "int",
  .free "bool",
  .free "list",
  .free "tuple",
  .free "len",
  .free "range",
  .free "enumerate",
  .free "sorted",
  .free "set",
  .free "max",
  .free "min",
  .free "all",
  .free "abs",
  .free "super",
  .int "MOST_HEAP" (10 ^ 30),
  .int "MOST_PILES" (20),
  .int "MOST_NUMBER" (400),
  .int "MOST_MODULUS" (6),
  .int "MOST_PARTS" (1000),
  .int "MOST_WORTH" (400),
  .int "FIRST_BOUND" (16),
  .int "MOST_RULES" (400),
  .int "MOST_COMMON" (12),
  .glo "is_integer",
  .glo "is_heap",
  .glo "need_heap",
  .glo "common_multiple",
  .glo "first_move",
  .glo "need_part",
  .glo "are_worths",
  .glo "shortest_turn",
  .glo "least_form",
  .glo "least_missing",
  .glo "grown",
  .glo "begin_of",
  .glo "table_in",
  .glo "table_of",
  .glo "common_modulus",
  .glo "in_order",
  .glo "_law_pen",
  .glo "_law_draw",
  .glo "_law_pick",
  .glo "_law_rule",
  .glo "_law_book",
  .glo "_law_rows",
  .glo "_law_heap",
  .glo "_law_pile",
  .glo "_law_heaps",
  .glo "_law_position",
  .glo "_law_play",
  .glo "_law_rounds_right",
  .glo "_law_first_rounds",
  .glo "_law_walked_right",
  .glo "_law_set",
  .glo "_law_lost_right",
  .glo "law",
  .glo "Laid",
  .glo "Position",
  .glo "Match",
  .glo "Rule",
  .glo "Rested",
  .glo "Sized",
  .glo "Fixed",
  .glo "Down",
  .glo "Table",
  .glo "Book",
  .glo "Pile",
  .glo "Plain",
  .cls "Position",
  .mkr "Position",
  .noat "Position" "piles",
  .cls "Match",
  .mkr "Match",
  .noat "Match" "stand",
  .noat "Match" "done",
  .cls "Fixed",
  .mkr "Fixed",
  .noat "Fixed" "size",
  .noat "Fixed" "leave",
  .noat "Fixed" "rest",
  .noat "Fixed" "modulus",
  .noat "Fixed" "start",
  .noat "Fixed" "reach",
  .cls "Down",
  .mkr "Down",
  .noat "Down" "rest",
  .noat "Down" "modulus",
  .noat "Down" "to",
  .noat "Down" "start",
  .noat "Down" "reach",
  .cls "Table",
  .mkr "Table",
  .noat "Table" "begin",
  .noat "Table" "period",
  .noat "Table" "numbers",
  .cls "Book",
  .mkr "Book",
  .noat "Book" "modulus",
  .noat "Book" "rules",
  .noat "Book" "start",
  .noat "Book" "reach",
  .cls "Pile",
  .mkr "Pile",
  .noat "Pile" "size",
  .noat "Pile" "book",
  .cls "Plain",
  .mkr "Plain",
  .noat "Plain" "size",
  .noat "Plain" "book",
  .meth "Position" "its_worth",
  .meth "Position" "wins",
  .meth "Position" "moves",
  .meth "Position" "winning",
  .meth "Position" "after",
  .meth "Position" "__getitem__",
  .meth "Position" "__eq__",
  .meth "Match" "take",
  .meth "Match" "leave_at",
  .meth "Match" "winner",
  .meth "Match" "rounds",
  .meth "Match" "__len__",
  .meth "Match" "__setitem__",
  .meth "Fixed" "stands_at",
  .meth "Fixed" "left_at",
  .meth "Fixed" "number_in_order",
  .meth "Down" "stands_at",
  .meth "Down" "left_at",
  .meth "Down" "number_in_order",
  .meth "Table" "worth_at",
  .meth "Table" "__getitem__",
  .meth "Book" "lefts",
  .meth "Book" "takes",
  .meth "Book" "as_table",
  .meth "Book" "__call__",
  .meth "Pile" "resized",
  .meth "Pile" "its_worth",
  .meth "Pile" "each_take",
  .meth "Pile" "each_take_to",
  .meth "Pile" "lets",
  .meth "Pile" "__sub__",
  .meth "Pile" "__xor__",
  .meth "Plain" "resized",
  .meth "Plain" "its_worth",
  .meth "Plain" "each_take",
  .meth "Plain" "each_take_to",
  .meth "Plain" "lets"]
def hEx : List (PySem.W.Frag → Bool) := [fun K => tyB K (kPosition K),
  fun K => tyB K (kMatch K),
  fun K => tyB K (kFixed K),
  fun K => tyB K (kDown K),
  fun K => tyB K (kTable K),
  fun K => tyB K (kBook K),
  fun K => tyB K (kPile K),
  fun K => tyB K (kPlain K),
  fun K => mtB K (kPlain K) "__sub__" (a_Pile_sub K),
  fun K => mtB K (kPlain K) "__xor__" (a_Pile_xor K),
  fun K => prB K (kMatch K) "position",
  fun K => prB K (kMatch K) "past",
  fun K => prB K (kMatch K) "mover",
  fun K => rdB K (kBook K),
  fun K => rdB K (kPosition K),
  fun K => rdB K (kSized K),
  fun K => rdB K (kRested K),
  fun K => He5.wrapB K (kBook K) "classmethod" "classmethod.__get__" "of" && PySem.W.fnIn K (He5.wf K (kBook K) "classmethod" "of"),
  fun K => He5.wrapB K (kPosition K) "classmethod" "classmethod.__get__" "of" && PySem.W.fnIn K (He5.wf K (kPosition K) "classmethod" "of"),
  fun K => cvB K (kSized K) "__init__" (a_Sized_init K),
  fun K => cvB K (kRested K) "__init__" (a_Rested_init K),
  fun K => decide (PySem.W.kitOne K (.ref (kFixed K)) (.ref (kRule K)) = some true),
  fun K => decide (PySem.W.kitOne K (.ref (kDown K)) (.ref (kRule K)) = some true),
  fun K => decide (PySem.W.kitOne K (.ref (kPile K)) (.ref (kLaid K)) = some true),
  fun K => decide (PySem.W.kitOne K (.ref (kPlain K)) (.ref (kLaid K)) = some true),
  fun K => decide (PySem.W.kitOne K (.ref (kPosition K)) (.ref (kPosition K)) = some true),
  fun K => decide (PySem.W.kitOne K (.ref (kBook K)) (.ref (kBook K)) = some true),
  fun K => decide (PySem.W.kitOne K (.ref (kPlain K)) (.ref (kPosition K)) = some false),
  fun K => decide (PySem.W.kitOne K (.ref (kPlain K)) (.ref (kPile K)) = some true),
  fun K => decide (PySem.W.kitOne K (.ref (kPile K)) (.ref (kPile K)) = some true),
  fun K => PySem.W.noSeq K (kPosition K),
  fun K => PySem.W.noSeq K (kTable K),
  fun K => PySem.W.noSeq K (kMatch K),
  fun K => PySem.W.fnIn K (a_Position_getitem K),
  fun K => PySem.W.fnIn K (a_Table_getitem K),
  fun K => PySem.W.fnIn K (a_Book_call K),
  fun K => PySem.W.selfFirst K (kPile K),
  fun K => decide (PySem.W.findIn K (.ref (kPile K)) "__rsub__" = some none),
  fun K => decide (PySem.W.subIn K (.type "int") (.ref (kPile K)) = some false),
  fun K => PySem.W.selfFirst K (kPlain K),
  fun K => decide (PySem.W.findIn K (.ref (kPlain K)) "__rsub__" = some none),
  fun K => decide (PySem.W.subIn K (.type "int") (.ref (kPlain K)) = some false),
  fun K => (PySem.W.findIn K (.type "int") "__sub__").isSome,
  fun K => (PySem.W.findIn K (.type "int") "__rsub__").isSome,
  fun K => decide (PySem.W.ks_superIn K (kPile K) (kPile K) "__init__" = some (some (.ref (a_Laid_init K)))),
  fun K => decide (PySem.W.mroIn K (kPile K) (.ref (kPile K)) = some true),
  fun K => decide (PySem.W.ks_superIn K (kPlain K) (kPile K) "__init__" = some (some (.ref (a_Laid_init K)))),
  fun K => decide (PySem.W.mroIn K (kPlain K) (.ref (kPile K)) = some true),
  fun K => decide (PySem.W.ks_superIn K (kPlain K) (kPlain K) "__init__" = some (some (.ref (a_Pile_init K)))),
  fun K => decide (PySem.W.mroIn K (kPlain K) (.ref (kPlain K)) = some true),
  fun K => decide (PySem.W.typeIn K (.ref (a_Laid_init K)) = some (.type "function")),
  fun K => decide (PySem.W.typeIn K (.ref (a_Pile_init K)) = some (.type "function")),
  fun K => (PySem.W.clsIn K (kPile K)).isSome,
  fun K => (PySem.W.clsIn K (kPlain K)).isSome,
  fun K => decide (PySem.W.nsIn K PySem.cStatics "thirdparty.any" = some none),
  fun K => decide (PySem.W.findIn K (.ref (kPosition K)) "__ne__" = some (some (.builtin "object.__ne__"))),
  fun K => decide (PySem.W.findIn K (.ref (kPosition K)) "__eq__" = some (some (.ref (a_Position_eq K))))]
def hFn : List He5.DefA := [⟨fun K => a_is_integer K, "is_integer", "is_integer", L2.defArgs s_is_integer, L2.defBody s_is_integer, L2.defScope s_is_integer, [], []⟩,
  ⟨fun K => a_is_heap K, "is_heap", "is_heap", L2.defArgs s_is_heap, L2.defBody s_is_heap, L2.defScope s_is_heap, [], []⟩,
  ⟨fun K => a_need_heap K, "need_heap", "need_heap", L2.defArgs s_need_heap, L2.defBody s_need_heap, L2.defScope s_need_heap, [], []⟩,
  ⟨fun K => a_common_multiple K, "common_multiple", "common_multiple", L2.defArgs s_common_multiple, L2.defBody s_common_multiple, L2.defScope s_common_multiple, [], []⟩,
  ⟨fun K => a_first_move K, "first_move", "first_move", L2.defArgs s_first_move, L2.defBody s_first_move, L2.defScope s_first_move, [], []⟩,
  ⟨fun K => a_need_part K, "need_part", "need_part", L2.defArgs s_need_part, L2.defBody s_need_part, L2.defScope s_need_part, [], []⟩,
  ⟨fun K => a_are_worths K, "are_worths", "are_worths", L2.defArgs s_are_worths, L2.defBody s_are_worths, L2.defScope s_are_worths, [], []⟩,
  ⟨fun K => a_shortest_turn K, "shortest_turn", "shortest_turn", L2.defArgs s_shortest_turn, L2.defBody s_shortest_turn, L2.defScope s_shortest_turn, [], []⟩,
  ⟨fun K => a_least_form K, "least_form", "least_form", L2.defArgs s_least_form, L2.defBody s_least_form, L2.defScope s_least_form, [], []⟩,
  ⟨fun K => a_least_missing K, "least_missing", "least_missing", L2.defArgs s_least_missing, L2.defBody s_least_missing, L2.defScope s_least_missing, [], []⟩,
  ⟨fun K => a_grown K, "grown", "grown", L2.defArgs s_grown, L2.defBody s_grown, L2.defScope s_grown, [], []⟩,
  ⟨fun K => a_begin_of K, "begin_of", "begin_of", L2.defArgs s_begin_of, L2.defBody s_begin_of, L2.defScope s_begin_of, [], []⟩,
  ⟨fun K => a_table_in K, "table_in", "table_in", L2.defArgs s_table_in, L2.defBody s_table_in, L2.defScope s_table_in, [], []⟩,
  ⟨fun K => a_table_of K, "table_of", "table_of", L2.defArgs s_table_of, L2.defBody s_table_of, L2.defScope s_table_of, [.int 1000], []⟩,
  ⟨fun K => a_common_modulus K, "common_modulus", "common_modulus", L2.defArgs s_common_modulus, L2.defBody s_common_modulus, L2.defScope s_common_modulus, [], []⟩,
  ⟨fun K => a_in_order K, "in_order", "in_order", L2.defArgs s_in_order, L2.defBody s_in_order, L2.defScope s_in_order, [], []⟩,
  ⟨fun K => a_law_pen K, "_law_pen", "_law_pen", L2.defArgs s_law_pen, L2.defBody s_law_pen, L2.defScope s_law_pen, [], []⟩,
  ⟨fun K => a_law_draw K, "_law_draw", "_law_draw", L2.defArgs s_law_draw, L2.defBody s_law_draw, L2.defScope s_law_draw, [], []⟩,
  ⟨fun K => a_law_pick K, "_law_pick", "_law_pick", L2.defArgs s_law_pick, L2.defBody s_law_pick, L2.defScope s_law_pick, [], []⟩,
  ⟨fun K => a_law_rule K, "_law_rule", "_law_rule", L2.defArgs s_law_rule, L2.defBody s_law_rule, L2.defScope s_law_rule, [], []⟩,
  ⟨fun K => a_law_book K, "_law_book", "_law_book", L2.defArgs s_law_book, L2.defBody s_law_book, L2.defScope s_law_book, [], []⟩,
  ⟨fun K => a_law_rows K, "_law_rows", "_law_rows", L2.defArgs s_law_rows, L2.defBody s_law_rows, L2.defScope s_law_rows, [], []⟩,
  ⟨fun K => a_law_heap K, "_law_heap", "_law_heap", L2.defArgs s_law_heap, L2.defBody s_law_heap, L2.defScope s_law_heap, [], []⟩,
  ⟨fun K => a_law_pile K, "_law_pile", "_law_pile", L2.defArgs s_law_pile, L2.defBody s_law_pile, L2.defScope s_law_pile, [], []⟩,
  ⟨fun K => a_law_heaps K, "_law_heaps", "_law_heaps", L2.defArgs s_law_heaps, L2.defBody s_law_heaps, L2.defScope s_law_heaps, [], []⟩,
  ⟨fun K => a_law_position K, "_law_position", "_law_position", L2.defArgs s_law_position, L2.defBody s_law_position, L2.defScope s_law_position, [], []⟩,
  ⟨fun K => a_law_play K, "_law_play", "_law_play", L2.defArgs s_law_play, L2.defBody s_law_play, L2.defScope s_law_play, [], []⟩,
  ⟨fun K => a_law_rounds_right K, "_law_rounds_right", "_law_rounds_right", L2.defArgs s_law_rounds_right, L2.defBody s_law_rounds_right, L2.defScope s_law_rounds_right, [], []⟩,
  ⟨fun K => a_law_first_rounds K, "_law_first_rounds", "_law_first_rounds", L2.defArgs s_law_first_rounds, L2.defBody s_law_first_rounds, L2.defScope s_law_first_rounds, [], []⟩,
  ⟨fun K => a_law_walked_right K, "_law_walked_right", "_law_walked_right", L2.defArgs s_law_walked_right, L2.defBody s_law_walked_right, L2.defScope s_law_walked_right, [], []⟩,
  ⟨fun K => a_law_set K, "_law_set", "_law_set", L2.defArgs s_law_set, L2.defBody s_law_set, L2.defScope s_law_set, [], []⟩,
  ⟨fun K => a_law_lost_right K, "_law_lost_right", "_law_lost_right", L2.defArgs s_law_lost_right, L2.defBody s_law_lost_right, L2.defScope s_law_lost_right, [], []⟩,
  ⟨fun K => a_law K, "law", "law", L2.defArgs s_law, L2.defBody s_law, L2.defScope s_law, [], []⟩,
  ⟨fun K => a_Laid_init K, "__init__", "Laid.__init__", L2.defArgs s_Laid_init, L2.defBody s_Laid_init, L2.defScope s_Laid_init, [], []⟩,
  ⟨fun K => a_Position_init K, "__init__", "Position.__init__", L2.defArgs s_Position_init, L2.defBody s_Position_init, L2.defScope s_Position_init, [], []⟩,
  ⟨fun K => a_Position_of K, "of", "Position.of", L2.defArgs s_Position_of, L2.defBody s_Position_of, L2.defScope s_Position_of, [], []⟩,
  ⟨fun K => a_Position_its_worth K, "its_worth", "Position.its_worth", L2.defArgs s_Position_its_worth, L2.defBody s_Position_its_worth, L2.defScope s_Position_its_worth, [], []⟩,
  ⟨fun K => a_Position_wins K, "wins", "Position.wins", L2.defArgs s_Position_wins, L2.defBody s_Position_wins, L2.defScope s_Position_wins, [], []⟩,
  ⟨fun K => a_Position_moves K, "moves", "Position.moves", L2.defArgs s_Position_moves, L2.defBody s_Position_moves, L2.defScope s_Position_moves, [], []⟩,
  ⟨fun K => a_Position_winning K, "winning", "Position.winning", L2.defArgs s_Position_winning, L2.defBody s_Position_winning, L2.defScope s_Position_winning, [], []⟩,
  ⟨fun K => a_Position_after K, "after", "Position.after", L2.defArgs s_Position_after, L2.defBody s_Position_after, L2.defScope s_Position_after, [], []⟩,
  ⟨fun K => a_Position_getitem K, "__getitem__", "Position.__getitem__", L2.defArgs s_Position_getitem, L2.defBody s_Position_getitem, L2.defScope s_Position_getitem, [], []⟩,
  ⟨fun K => a_Position_eq K, "__eq__", "Position.__eq__", L2.defArgs s_Position_eq, L2.defBody s_Position_eq, L2.defScope s_Position_eq, [], []⟩,
  ⟨fun K => a_Match_init K, "__init__", "Match.__init__", L2.defArgs s_Match_init, L2.defBody s_Match_init, L2.defScope s_Match_init, [], []⟩,
  ⟨fun K => a_Match_position K, "position", "Match.position", L2.defArgs s_Match_position, L2.defBody s_Match_position, L2.defScope s_Match_position, [], []⟩,
  ⟨fun K => a_Match_past K, "past", "Match.past", L2.defArgs s_Match_past, L2.defBody s_Match_past, L2.defScope s_Match_past, [], []⟩,
  ⟨fun K => a_Match_mover K, "mover", "Match.mover", L2.defArgs s_Match_mover, L2.defBody s_Match_mover, L2.defScope s_Match_mover, [], []⟩,
  ⟨fun K => a_Match_take K, "take", "Match.take", L2.defArgs s_Match_take, L2.defBody s_Match_take, L2.defScope s_Match_take, [], []⟩,
  ⟨fun K => a_Match_leave_at K, "leave_at", "Match.leave_at", L2.defArgs s_Match_leave_at, L2.defBody s_Match_leave_at, L2.defScope s_Match_leave_at, [], []⟩,
  ⟨fun K => a_Match_winner K, "winner", "Match.winner", L2.defArgs s_Match_winner, L2.defBody s_Match_winner, L2.defScope s_Match_winner, [], []⟩,
  ⟨fun K => a_Match_rounds K, "rounds", "Match.rounds", L2.defArgs s_Match_rounds, L2.defBody s_Match_rounds, L2.defScope s_Match_rounds, [], []⟩,
  ⟨fun K => a_Match_len K, "__len__", "Match.__len__", L2.defArgs s_Match_len, L2.defBody s_Match_len, L2.defScope s_Match_len, [], []⟩,
  ⟨fun K => a_Match_setitem K, "__setitem__", "Match.__setitem__", L2.defArgs s_Match_setitem, L2.defBody s_Match_setitem, L2.defScope s_Match_setitem, [], []⟩,
  ⟨fun K => a_Rested_init K, "__init__", "Rested.__init__", L2.defArgs s_Rested_init, L2.defBody s_Rested_init, L2.defScope s_Rested_init, [], []⟩,
  ⟨fun K => a_Sized_init K, "__init__", "Sized.__init__", L2.defArgs s_Sized_init, L2.defBody s_Sized_init, L2.defScope s_Sized_init, [], []⟩,
  ⟨fun K => a_Fixed_init K, "__init__", "Fixed.__init__", L2.defArgs s_Fixed_init, L2.defBody s_Fixed_init, L2.defScope s_Fixed_init, [.int 0, .int 1, .int 0], []⟩,
  ⟨fun K => a_Fixed_stands_at K, "stands_at", "Fixed.stands_at", L2.defArgs s_Fixed_stands_at, L2.defBody s_Fixed_stands_at, L2.defScope s_Fixed_stands_at, [], []⟩,
  ⟨fun K => a_Fixed_left_at K, "left_at", "Fixed.left_at", L2.defArgs s_Fixed_left_at, L2.defBody s_Fixed_left_at, L2.defScope s_Fixed_left_at, [], []⟩,
  ⟨fun K => a_Fixed_number_in_order K, "number_in_order", "Fixed.number_in_order", L2.defArgs s_Fixed_number_in_order, L2.defBody s_Fixed_number_in_order, L2.defScope s_Fixed_number_in_order, [], []⟩,
  ⟨fun K => a_Down_init K, "__init__", "Down.__init__", L2.defArgs s_Down_init, L2.defBody s_Down_init, L2.defScope s_Down_init, [.int 0, .int 1], []⟩,
  ⟨fun K => a_Down_stands_at K, "stands_at", "Down.stands_at", L2.defArgs s_Down_stands_at, L2.defBody s_Down_stands_at, L2.defScope s_Down_stands_at, [], []⟩,
  ⟨fun K => a_Down_left_at K, "left_at", "Down.left_at", L2.defArgs s_Down_left_at, L2.defBody s_Down_left_at, L2.defScope s_Down_left_at, [], []⟩,
  ⟨fun K => a_Down_number_in_order K, "number_in_order", "Down.number_in_order", L2.defArgs s_Down_number_in_order, L2.defBody s_Down_number_in_order, L2.defScope s_Down_number_in_order, [], []⟩,
  ⟨fun K => a_Table_init K, "__init__", "Table.__init__", L2.defArgs s_Table_init, L2.defBody s_Table_init, L2.defScope s_Table_init, [], []⟩,
  ⟨fun K => a_Table_worth_at K, "worth_at", "Table.worth_at", L2.defArgs s_Table_worth_at, L2.defBody s_Table_worth_at, L2.defScope s_Table_worth_at, [], []⟩,
  ⟨fun K => a_Table_getitem K, "__getitem__", "Table.__getitem__", L2.defArgs s_Table_getitem, L2.defBody s_Table_getitem, L2.defScope s_Table_getitem, [], []⟩,
  ⟨fun K => a_Book_init K, "__init__", "Book.__init__", L2.defArgs s_Book_init, L2.defBody s_Book_init, L2.defScope s_Book_init, [], []⟩,
  ⟨fun K => a_Book_of K, "of", "Book.of", L2.defArgs s_Book_of, L2.defBody s_Book_of, L2.defScope s_Book_of, [], []⟩,
  ⟨fun K => a_Book_lefts K, "lefts", "Book.lefts", L2.defArgs s_Book_lefts, L2.defBody s_Book_lefts, L2.defScope s_Book_lefts, [], []⟩,
  ⟨fun K => a_Book_takes K, "takes", "Book.takes", L2.defArgs s_Book_takes, L2.defBody s_Book_takes, L2.defScope s_Book_takes, [], []⟩,
  ⟨fun K => a_Book_as_table K, "as_table", "Book.as_table", L2.defArgs s_Book_as_table, L2.defBody s_Book_as_table, L2.defScope s_Book_as_table, [.int 1000], []⟩,
  ⟨fun K => a_Book_call K, "__call__", "Book.__call__", L2.defArgs s_Book_call, L2.defBody s_Book_call, L2.defScope s_Book_call, [], []⟩,
  ⟨fun K => a_Pile_resized K, "resized", "Pile.resized", L2.defArgs s_Pile_resized, L2.defBody s_Pile_resized, L2.defScope s_Pile_resized, [], []⟩,
  ⟨fun K => a_Pile_its_worth K, "its_worth", "Pile.its_worth", L2.defArgs s_Pile_its_worth, L2.defBody s_Pile_its_worth, L2.defScope s_Pile_its_worth, [], []⟩,
  ⟨fun K => a_Pile_each_take K, "each_take", "Pile.each_take", L2.defArgs s_Pile_each_take, L2.defBody s_Pile_each_take, L2.defScope s_Pile_each_take, [], []⟩,
  ⟨fun K => a_Pile_each_take_to K, "each_take_to", "Pile.each_take_to", L2.defArgs s_Pile_each_take_to, L2.defBody s_Pile_each_take_to, L2.defScope s_Pile_each_take_to, [], []⟩,
  ⟨fun K => a_Pile_lets K, "lets", "Pile.lets", L2.defArgs s_Pile_lets, L2.defBody s_Pile_lets, L2.defScope s_Pile_lets, [], []⟩,
  ⟨fun K => a_Pile_sub K, "__sub__", "Pile.__sub__", L2.defArgs s_Pile_sub, L2.defBody s_Pile_sub, L2.defScope s_Pile_sub, [], []⟩,
  ⟨fun K => a_Pile_xor K, "__xor__", "Pile.__xor__", L2.defArgs s_Pile_xor, L2.defBody s_Pile_xor, L2.defScope s_Pile_xor, [], []⟩,
  ⟨fun K => a_Plain_resized K, "resized", "Plain.resized", L2.defArgs s_Plain_resized, L2.defBody s_Plain_resized, L2.defScope s_Plain_resized, [], []⟩,
  ⟨fun K => a_Plain_its_worth K, "its_worth", "Plain.its_worth", L2.defArgs s_Plain_its_worth, L2.defBody s_Plain_its_worth, L2.defScope s_Plain_its_worth, [], []⟩,
  ⟨fun K => a_Plain_each_take K, "each_take", "Plain.each_take", L2.defArgs s_Plain_each_take, L2.defBody s_Plain_each_take, L2.defScope s_Plain_each_take, [], []⟩,
  ⟨fun K => a_Plain_each_take_to K, "each_take_to", "Plain.each_take_to", L2.defArgs s_Plain_each_take_to, L2.defBody s_Plain_each_take_to, L2.defScope s_Plain_each_take_to, [], []⟩,
  ⟨fun K => a_Plain_lets K, "lets", "Plain.lets", L2.defArgs s_Plain_lets, L2.defBody s_Plain_lets, L2.defScope s_Plain_lets, [], []⟩]
def hFs : List DefS := [⟨fun K => a_Pile_init K, fun K => kPile K, "__init__", "Pile.__init__", L2.defArgs s_Pile_init, L2.defBody s_Pile_init, L2.defScope s_Pile_init⟩,
  ⟨fun K => a_Plain_init K, fun K => kPlain K, "__init__", "Plain.__init__", L2.defArgs s_Plain_init, L2.defBody s_Plain_init, L2.defScope s_Plain_init⟩]
theorem txt_of {K : PySem.W.Frag} {h : Heap} {mg : Str → Option Value} (X : K.In h) (G : h.Ns mainGlobals mg) (c : SaysM hFa hEx hFn hFs K) : Txt K mg where
  z_isinstance := He.free_ok X G (c.fact 0)
  z_int := He.free_ok X G (c.fact 1)
  z_bool := He.free_ok X G (c.fact 2)
  z_list := He.free_ok X G (c.fact 3)
  z_tuple := He.free_ok X G (c.fact 4)
  z_len := He.free_ok X G (c.fact 5)
  z_range := He.free_ok X G (c.fact 6)
  z_enumerate := He.free_ok X G (c.fact 7)
  z_sorted := He.free_ok X G (c.fact 8)
  z_set := He.free_ok X G (c.fact 9)
  z_max := He.free_ok X G (c.fact 10)
  z_min := He.free_ok X G (c.fact 11)
  z_all := He.free_ok X G (c.fact 12)
  z_abs := He.free_ok X G (c.fact 13)
  z_super := He.free_ok X G (c.fact 14)
  k_MOST_HEAP := He.int_ok X G (c.fact 15)
  k_MOST_PILES := He.int_ok X G (c.fact 16)
  k_MOST_NUMBER := He.int_ok X G (c.fact 17)
  k_MOST_MODULUS := He.int_ok X G (c.fact 18)
  k_MOST_PARTS := He.int_ok X G (c.fact 19)
  k_MOST_WORTH := He.int_ok X G (c.fact 20)
  k_FIRST_BOUND := He.int_ok X G (c.fact 21)
  k_MOST_RULES := He.int_ok X G (c.fact 22)
  k_MOST_COMMON := He.int_ok X G (c.fact 23)
  g_is_integer := He.glo_ok X G (c.fact 24)
  g_is_heap := He.glo_ok X G (c.fact 25)
  g_need_heap := He.glo_ok X G (c.fact 26)
  g_common_multiple := He.glo_ok X G (c.fact 27)
  g_first_move := He.glo_ok X G (c.fact 28)
  g_need_part := He.glo_ok X G (c.fact 29)
  g_are_worths := He.glo_ok X G (c.fact 30)
  g_shortest_turn := He.glo_ok X G (c.fact 31)
  g_least_form := He.glo_ok X G (c.fact 32)
  g_least_missing := He.glo_ok X G (c.fact 33)
  g_grown := He.glo_ok X G (c.fact 34)
  g_begin_of := He.glo_ok X G (c.fact 35)
  g_table_in := He.glo_ok X G (c.fact 36)
  g_table_of := He.glo_ok X G (c.fact 37)
  g_common_modulus := He.glo_ok X G (c.fact 38)
  g_in_order := He.glo_ok X G (c.fact 39)
  g_law_pen := He.glo_ok X G (c.fact 40)
  g_law_draw := He.glo_ok X G (c.fact 41)
  g_law_pick := He.glo_ok X G (c.fact 42)
  g_law_rule := He.glo_ok X G (c.fact 43)
  g_law_book := He.glo_ok X G (c.fact 44)
  g_law_rows := He.glo_ok X G (c.fact 45)
  g_law_heap := He.glo_ok X G (c.fact 46)
  g_law_pile := He.glo_ok X G (c.fact 47)
  g_law_heaps := He.glo_ok X G (c.fact 48)
  g_law_position := He.glo_ok X G (c.fact 49)
  g_law_play := He.glo_ok X G (c.fact 50)
  g_law_rounds_right := He.glo_ok X G (c.fact 51)
  g_law_first_rounds := He.glo_ok X G (c.fact 52)
  g_law_walked_right := He.glo_ok X G (c.fact 53)
  g_law_set := He.glo_ok X G (c.fact 54)
  g_law_lost_right := He.glo_ok X G (c.fact 55)
  g_law := He.glo_ok X G (c.fact 56)
  g_Laid := He.glo_ok X G (c.fact 57)
  g_Position := He.glo_ok X G (c.fact 58)
  g_Match := He.glo_ok X G (c.fact 59)
  g_Rule := He.glo_ok X G (c.fact 60)
  g_Rested := He.glo_ok X G (c.fact 61)
  g_Sized := He.glo_ok X G (c.fact 62)
  g_Fixed := He.glo_ok X G (c.fact 63)
  g_Down := He.glo_ok X G (c.fact 64)
  g_Table := He.glo_ok X G (c.fact 65)
  g_Book := He.glo_ok X G (c.fact 66)
  g_Pile := He.glo_ok X G (c.fact 67)
  g_Plain := He.glo_ok X G (c.fact 68)
  f_is_integer := c.def_ 0
  f_is_heap := c.def_ 1
  f_need_heap := c.def_ 2
  f_common_multiple := c.def_ 3
  f_first_move := c.def_ 4
  f_need_part := c.def_ 5
  f_are_worths := c.def_ 6
  f_shortest_turn := c.def_ 7
  f_least_form := c.def_ 8
  f_least_missing := c.def_ 9
  f_grown := c.def_ 10
  f_begin_of := c.def_ 11
  f_table_in := c.def_ 12
  f_table_of := c.def_ 13
  f_common_modulus := c.def_ 14
  f_in_order := c.def_ 15
  f_law_pen := c.def_ 16
  f_law_draw := c.def_ 17
  f_law_pick := c.def_ 18
  f_law_rule := c.def_ 19
  f_law_book := c.def_ 20
  f_law_rows := c.def_ 21
  f_law_heap := c.def_ 22
  f_law_pile := c.def_ 23
  f_law_heaps := c.def_ 24
  f_law_position := c.def_ 25
  f_law_play := c.def_ 26
  f_law_rounds_right := c.def_ 27
  f_law_first_rounds := c.def_ 28
  f_law_walked_right := c.def_ 29
  f_law_set := c.def_ 30
  f_law_lost_right := c.def_ 31
  f_law := c.def_ 32
  f_Laid_init := c.def_ 33
  f_Position_init := c.def_ 34
  f_Position_of := c.def_ 35
  f_Position_its_worth := c.def_ 36
  f_Position_wins := c.def_ 37
  f_Position_moves := c.def_ 38
  f_Position_winning := c.def_ 39
  f_Position_after := c.def_ 40
  f_Position_getitem := c.def_ 41
  f_Position_eq := c.def_ 42
  f_Match_init := c.def_ 43
  f_Match_position := c.def_ 44
  f_Match_past := c.def_ 45
  f_Match_mover := c.def_ 46
  f_Match_take := c.def_ 47
  f_Match_leave_at := c.def_ 48
  f_Match_winner := c.def_ 49
  f_Match_rounds := c.def_ 50
  f_Match_len := c.def_ 51
  f_Match_setitem := c.def_ 52
  f_Rested_init := c.def_ 53
  f_Sized_init := c.def_ 54
  f_Fixed_init := c.def_ 55
  f_Fixed_stands_at := c.def_ 56
  f_Fixed_left_at := c.def_ 57
  f_Fixed_number_in_order := c.def_ 58
  f_Down_init := c.def_ 59
  f_Down_stands_at := c.def_ 60
  f_Down_left_at := c.def_ 61
  f_Down_number_in_order := c.def_ 62
  f_Table_init := c.def_ 63
  f_Table_worth_at := c.def_ 64
  f_Table_getitem := c.def_ 65
  f_Book_init := c.def_ 66
  f_Book_of := c.def_ 67
  f_Book_lefts := c.def_ 68
  f_Book_takes := c.def_ 69
  f_Book_as_table := c.def_ 70
  f_Book_call := c.def_ 71
  f_Pile_init := c.funS 0
  f_Pile_resized := c.def_ 72
  f_Pile_its_worth := c.def_ 73
  f_Pile_each_take := c.def_ 74
  f_Pile_each_take_to := c.def_ 75
  f_Pile_lets := c.def_ 76
  f_Pile_sub := c.def_ 77
  f_Pile_xor := c.def_ 78
  f_Plain_init := c.funS 1
  f_Plain_resized := c.def_ 79
  f_Plain_its_worth := c.def_ 80
  f_Plain_each_take := c.def_ 81
  f_Plain_each_take_to := c.def_ 82
  f_Plain_lets := c.def_ 83
  c_Position := He.cls_ok (c.fact 69)
  mk_Position := He.mkr_ok (c.fact 70)
  ty_Position := tyB_ok (c.ex_ 0)
  n_Position_piles := He.noat_ok (c.fact 71)
  c_Match := He.cls_ok (c.fact 72)
  mk_Match := He.mkr_ok (c.fact 73)
  ty_Match := tyB_ok (c.ex_ 1)
  n_Match_stand := He.noat_ok (c.fact 74)
  n_Match_done := He.noat_ok (c.fact 75)
  c_Fixed := He.cls_ok (c.fact 76)
  mk_Fixed := He.mkr_ok (c.fact 77)
  ty_Fixed := tyB_ok (c.ex_ 2)
  n_Fixed_size := He.noat_ok (c.fact 78)
  n_Fixed_leave := He.noat_ok (c.fact 79)
  n_Fixed_rest := He.noat_ok (c.fact 80)
  n_Fixed_modulus := He.noat_ok (c.fact 81)
  n_Fixed_start := He.noat_ok (c.fact 82)
  n_Fixed_reach := He.noat_ok (c.fact 83)
  c_Down := He.cls_ok (c.fact 84)
  mk_Down := He.mkr_ok (c.fact 85)
  ty_Down := tyB_ok (c.ex_ 3)
  n_Down_rest := He.noat_ok (c.fact 86)
  n_Down_modulus := He.noat_ok (c.fact 87)
  n_Down_to := He.noat_ok (c.fact 88)
  n_Down_start := He.noat_ok (c.fact 89)
  n_Down_reach := He.noat_ok (c.fact 90)
  c_Table := He.cls_ok (c.fact 91)
  mk_Table := He.mkr_ok (c.fact 92)
  ty_Table := tyB_ok (c.ex_ 4)
  n_Table_begin := He.noat_ok (c.fact 93)
  n_Table_period := He.noat_ok (c.fact 94)
  n_Table_numbers := He.noat_ok (c.fact 95)
  c_Book := He.cls_ok (c.fact 96)
  mk_Book := He.mkr_ok (c.fact 97)
  ty_Book := tyB_ok (c.ex_ 5)
  n_Book_modulus := He.noat_ok (c.fact 98)
  n_Book_rules := He.noat_ok (c.fact 99)
  n_Book_start := He.noat_ok (c.fact 100)
  n_Book_reach := He.noat_ok (c.fact 101)
  c_Pile := He.cls_ok (c.fact 102)
  mk_Pile := He.mkr_ok (c.fact 103)
  ty_Pile := tyB_ok (c.ex_ 6)
  n_Pile_size := He.noat_ok (c.fact 104)
  n_Pile_book := He.noat_ok (c.fact 105)
  c_Plain := He.cls_ok (c.fact 106)
  mk_Plain := He.mkr_ok (c.fact 107)
  ty_Plain := tyB_ok (c.ex_ 7)
  n_Plain_size := He.noat_ok (c.fact 108)
  n_Plain_book := He.noat_ok (c.fact 109)
  m_Position_its_worth := He.meth_ok (c.fact 110)
  m_Position_wins := He.meth_ok (c.fact 111)
  m_Position_moves := He.meth_ok (c.fact 112)
  m_Position_winning := He.meth_ok (c.fact 113)
  m_Position_after := He.meth_ok (c.fact 114)
  m_Position_getitem := He.meth_ok (c.fact 115)
  m_Position_eq := He.meth_ok (c.fact 116)
  m_Match_take := He.meth_ok (c.fact 117)
  m_Match_leave_at := He.meth_ok (c.fact 118)
  m_Match_winner := He.meth_ok (c.fact 119)
  m_Match_rounds := He.meth_ok (c.fact 120)
  m_Match_len := He.meth_ok (c.fact 121)
  m_Match_setitem := He.meth_ok (c.fact 122)
  m_Fixed_stands_at := He.meth_ok (c.fact 123)
  m_Fixed_left_at := He.meth_ok (c.fact 124)
  m_Fixed_number_in_order := He.meth_ok (c.fact 125)
  m_Down_stands_at := He.meth_ok (c.fact 126)
  m_Down_left_at := He.meth_ok (c.fact 127)
  m_Down_number_in_order := He.meth_ok (c.fact 128)
  m_Table_worth_at := He.meth_ok (c.fact 129)
  m_Table_getitem := He.meth_ok (c.fact 130)
  m_Book_lefts := He.meth_ok (c.fact 131)
  m_Book_takes := He.meth_ok (c.fact 132)
  m_Book_as_table := He.meth_ok (c.fact 133)
  m_Book_call := He.meth_ok (c.fact 134)
  m_Pile_resized := He.meth_ok (c.fact 135)
  m_Pile_its_worth := He.meth_ok (c.fact 136)
  m_Pile_each_take := He.meth_ok (c.fact 137)
  m_Pile_each_take_to := He.meth_ok (c.fact 138)
  m_Pile_lets := He.meth_ok (c.fact 139)
  m_Pile_sub := He.meth_ok (c.fact 140)
  m_Pile_xor := He.meth_ok (c.fact 141)
  m_Plain_resized := He.meth_ok (c.fact 142)
  m_Plain_its_worth := He.meth_ok (c.fact 143)
  m_Plain_each_take := He.meth_ok (c.fact 144)
  m_Plain_each_take_to := He.meth_ok (c.fact 145)
  m_Plain_lets := He.meth_ok (c.fact 146)
  m_Plain_sub := mtB_ok (c.ex_ 8)
  m_Plain_xor := mtB_ok (c.ex_ 9)
  p_Match_position := prB_ok (c.ex_ 10)
  p_Match_past := prB_ok (c.ex_ 11)
  p_Match_mover := prB_ok (c.ex_ 12)
  r_Book := rdB_ok (c.ex_ 13)
  r_Position := rdB_ok (c.ex_ 14)
  r_Sized := rdB_ok (c.ex_ 15)
  r_Rested := rdB_ok (c.ex_ 16)
  cm_Book_of := let h := He.ba (c.ex_ 17); He5.cmet_of h.1 h.2
  cm_Position_of := let h := He.ba (c.ex_ 18); He5.cmet_of h.1 h.2
  cv_Sized_init := cvB_ok (c.ex_ 19)
  cv_Rested_init := cvB_ok (c.ex_ 20)
  ki_Fixed_Rule := of_decide_eq_true (c.ex_ 21)
  ki_Down_Rule := of_decide_eq_true (c.ex_ 22)
  ki_Pile_Laid := of_decide_eq_true (c.ex_ 23)
  ki_Plain_Laid := of_decide_eq_true (c.ex_ 24)
  ki_Position_Position := of_decide_eq_true (c.ex_ 25)
  ki_Book_Book := of_decide_eq_true (c.ex_ 26)
  ki_Plain_Position := of_decide_eq_true (c.ex_ 27)
  ki_Plain_Pile := of_decide_eq_true (c.ex_ 28)
  ki_Pile_Pile := of_decide_eq_true (c.ex_ 29)
  nq_Position := c.ex_ 30
  nq_Table := c.ex_ 31
  nq_Match := c.ex_ 32
  fi_Position_getitem := c.ex_ 33
  fi_Table_getitem := c.ex_ 34
  fi_Book_call := c.ex_ 35
  sf_Pile := c.ex_ 36
  rs_Pile := of_decide_eq_true (c.ex_ 37)
  su_Pile := of_decide_eq_true (c.ex_ 38)
  sf_Plain := c.ex_ 39
  rs_Plain := of_decide_eq_true (c.ex_ 40)
  su_Plain := of_decide_eq_true (c.ex_ 41)
  is_ := Option.isSome_iff_exists.mp (c.ex_ 42)
  ir_ := Option.isSome_iff_exists.mp (c.ex_ 43)
  up_Pile_Pile := of_decide_eq_true (c.ex_ 44)
  mr_Pile_Pile := of_decide_eq_true (c.ex_ 45)
  up_Plain_Pile := of_decide_eq_true (c.ex_ 46)
  mr_Plain_Pile := of_decide_eq_true (c.ex_ 47)
  up_Plain_Plain := of_decide_eq_true (c.ex_ 48)
  mr_Plain_Plain := of_decide_eq_true (c.ex_ 49)
  tf_Laid := of_decide_eq_true (c.ex_ 50)
  tf_Pile := of_decide_eq_true (c.ex_ 51)
  cl_Pile := Option.isSome_iff_exists.mp (c.ex_ 52)
  cl_Plain := Option.isSome_iff_exists.mp (c.ex_ 53)
  op_ := of_decide_eq_true (c.ex_ 54)
  eq_Position := of_decide_eq_true (c.ex_ 55)
  eqf_Position := of_decide_eq_true (c.ex_ 56)
end RW
end

/-! ## F35 -/
section
set_option Elab.async false
set_option linter.all false
set_option maxRecDepth 100000
set_option maxHeartbeats 0
namespace RW
open PySem PySem.W PySem.Calls PyProof.Rows
abbrev RR : OpenRow := OpenLaw.row PySem.Challenge.rw_freetakes_k86_whole_plays_of_matches
abbrev qv : Program := view RR.prog [89]
def nm0 : List PySem.Str := ["_wall", "FreeError", "BadRule", "BadBook", "BadSize", "BadTable", "BadNumber", "NoTake", "NoPile", "TooMany", "BadText", "MOST_HEAP", "is_integer", "is_heap", "need_heap", "common_multiple", "Laid", "MOST_PILES", "Position", "first_move", "Match", "MOST_NUMBER", "MOST_MODULUS", "FIGURES_rules", "need_part"]
def nm1 : List PySem.Str := ["number_in", "rest_in", "leave_in", "rule_in", "rest_text", "Rule", "Rested", "Sized", "Fixed", "Down", "MOST_PARTS", "MOST_WORTH", "FIRST_BOUND", "FIGURES_tables", "are_worths", "shortest_turn", "least_form", "worth_in", "rows_in", "Table", "least_missing", "grown", "begin_of", "table_in", "table_of"]
def nm2 : List PySem.Str := ["MOST_RULES", "MOST_COMMON", "common_modulus", "in_order", "rules_of", "Book", "need_divisor", "Pile", "Plain", "_law_pen", "_law_draw", "_law_pick", "_law_rule", "_law_lefts", "_law_book", "_law_rows", "_law_heap", "_law_pile", "_law_numbers", "_law_heaps", "_law_position", "_law_moves", "_law_behind", "_law_play", "_law_rounds_right"]
def nm3 : List PySem.Str := ["_law_first_rounds", "_law_walked_right", "_law_set", "_law_lost_right"]
def names : List PySem.Str := nm0 ++ (nm1 ++ (nm2 ++ (nm3)))
abbrev hk : PySem.W.Hook := hookM 6 hFa hEx hFn hFs
def ob (s : PySem.W.SharedT) : AlS := obsMG 6 hFa hEx hFn hFs (HandSHeadRun.getT s)
theorem ob_eq (s : PySem.W.SharedT) : ob s = hk.obs s.abs := obsMG_eq (HandSHeadRun.getT_eq s)
theorem join3 {S A B C : Type} {E : Option S} {l : S → Bool} {n : S → A} {p x q r : S → Bool} {c : S → B} {d : S → C} {gd : A} {vb : B} {vc : C}
    (h1 : E.map (fun s => (l s, n s)) = some (true, gd)) (h2 : E.map (fun s => (p s, x s)) = some (true, true)) (h3 : E.map (fun s => (q s, r s, c s, d s)) = some (true, true, vb, vc)) :
    E.map (fun s => (l s, n s, ((p s && (x s && (q s && r s)), c s, d s) : Bool × B × C))) = some (true, gd, (true, vb, vc)) := by
  cases E with
  | none => cases h1
  | some s =>
    simp only [Option.map_some, Option.some.injEq, Prod.mk.injEq] at h1 h2 h3 ⊢
    obtain ⟨a1, a2⟩ := h1
    obtain ⟨b1, b2⟩ := h2
    obtain ⟨c1, c2, c3, c4⟩ := h3
    exact ⟨a1, a2, by rw [b1, b2, c1, c2]; rfl, c3, c4⟩
noncomputable abbrev EE (w : World) (os : OsState) : Option SharedT := HandSHeadRun.endF (HandSHeadRun.stepQ (HandSHeadRun.denQ HandSHeadRun.tabQ) RR.prog w) 12000 RR.prog w os
def kf (s : SharedT) : PySem.W.Frag := He.frG (HandSHeadRun.getT s) (asM (HandSHeadRun.getT s) 6)
/-! the run, three times: what one look asks at a time, for the memory's sake -/
theorem run1 (w : World) (os : OsState) : (EE w os).map (fun s => (HandSHeadRun.looksF RR.prog (boot_heap w.params) s.abs, HandSHeadRun.seenQ qv names (importedModules RR.prog.main.body) (fun s => xlAt qv [] s && recOk RR.toRowW.records s) s.abs)) = some (true, openGood qv names) := by
  kernel_rfl
theorem run2 (w : World) (os : OsState) : (EE w os).map (fun s => (hFa.all fun f => f.ok (kf s), hEx.all fun f => f (kf s))) = some (true, true) := by
  kernel_rfl
theorem run3 (w : World) (os : OsState) : (EE w os).map (fun s => (hFn.all fun d => d.ok (kf s), hFs.all fun d => d.ok (kf s), hFn.map fun d => He5.fnA (kf s) (d.at_ (kf s)), hFs.map fun d => fnS (kf s) (d.at_ (kf s)))) = some (true, true, hFn.map He5.DefA.val, hFs.map DefS.val) := by
  kernel_rfl
theorem run (w : World) : HandSHeadRun.RunEq RR qv hk ob 12000 names w := by
  intro os
  have j := join3 (run1 w os) (run2 w os) (run3 w os)
  exact j
end RW
end

/-! ## D1 -/
section
set_option Elab.async false
set_option linter.all false
set_option maxRecDepth 100000
set_option maxHeartbeats 4000000
namespace RW
open PySem PySem.Spec PyProof.Rows L2
/-! ### rules: plain data -/
/-- dn: a Down rule; nu: its size or what it leaves; re, mo: rest and modulus; le: its leave -/
structure Rl where
  dn : Bool
  nu : Nat
  re : Nat
  mo : Nat
  le : Nat
def Rl.start (r : Rl) : Nat := if r.dn then r.nu + 1 else r.nu + r.le
def Rl.reach (r : Rl) : Nat := if r.dn then 0 else r.nu
def Rl.key (r : Rl) : Nat := if r.dn then (((1000 + r.nu) * 7 + r.mo) * 7 + r.re) * 1000 else ((r.nu * 7 + r.mo) * 7 + r.re) * 1000 + r.le
def Rl.st (r : Rl) (n : Nat) : Bool := decide (r.start ≤ n) && decide (n % r.mo = r.re)
def Rl.lf (r : Rl) (n : Nat) : Nat := if r.dn then r.nu else n - r.nu
/-- what a rule's parts must be -/
structure Rl.Ok (r : Rl) : Prop where
  mo1 : 1 ≤ r.mo
  mo6 : r.mo ≤ 3
  re : r.re < r.mo
  nu : r.nu ≤ 3
  le : r.le ≤ 2
  fix : r.dn = false → 1 ≤ r.nu
  dn0 : r.dn = true → r.le = 0
def sN (n : Nat) : V := .int (n : Int)
def rFs (r : Rl) : List (Str × V) := if r.dn then [("rest", sN r.re), ("modulus", sN r.mo), ("to", sN r.nu), ("start", sN r.start), ("reach", sN r.reach)]
  else [("size", sN r.nu), ("leave", sN r.le), ("rest", sN r.re), ("modulus", sN r.mo), ("start", sN r.start), ("reach", sN r.reach)]
def rCl (K : PySem.W.Frag) (r : Rl) : Addr := if r.dn then kDown K else kFixed K
theorem Rl.key_inj {r q : Rl} (hr : r.Ok) (hq : q.Ok) (h : q.key = r.key) : q = r := by
  obtain ⟨d, n, e, m, l⟩ := r
  obtain ⟨d', n', e', m', l'⟩ := q
  obtain ⟨a1, a2, a3, a4, a5, a6, a7⟩ := hr
  obtain ⟨b1, b2, b3, b4, b5, b6, b7⟩ := hq
  unfold Rl.key at h
  cases d <;> cases d' <;> simp only [Bool.false_eq_true, if_false, if_true] at * <;> first
    | (have e1 : n' = n := by omega
       have e2 : m' = m := by omega
       have e3 : e' = e := by omega
       have e4 : l' = l := by omega
       subst e1 e2 e3 e4; rfl)
    | (exfalso; omega)
    | (have e0 := a7 trivial
       have e0' := b7 trivial
       have e1 : n' = n := by omega
       have e2 : m' = m := by omega
       have e3 : e' = e := by omega
       have e4 : l' = l := by omega
       subst e1 e2 e3 e4; rfl)
def RuleAt (K : PySem.W.Frag) (H : Hp) (p : Addr) (r : Rl) : Prop := ∃ dx, H p = some (.ins (rCl K r) dx (rFs r)) ∧ r.Ok

theorem kpi {H H' : Hp} (k : GF.Kp H H') {a C dx : Addr} {fs : List (Str × V)} (h : H a = some (.ins C dx fs)) : H' a = some (.ins C dx fs) := k _ _ h rfl
theorem kpt {H H' : Hp} (k : GF.Kp H H') {a : Addr} {xs : List V} (h : H a = some (.tup xs)) : H' a = some (.tup xs) := k _ _ h rfl
theorem RuleAt.kp {K : PySem.W.Frag} {H H' : Hp} {p : Addr} {r : Rl} (h : RuleAt K H p r) (k : GF.Kp H H') : RuleAt K H' p r := let ⟨dx, h, o⟩ := h; ⟨dx, kpi k h, o⟩
theorem lk_hit {x : Str} {v : V} {l : List (Str × V)} : ((x, v) :: l).lookup x = some v := by simp [List.lookup]
theorem lk_miss {x y : Str} {v : V} {l : List (Str × V)} (h : (y == x) = false) : ((x, v) :: l).lookup y = l.lookup y := by simp [List.lookup, h]
example (a b : V) : putF "leave" b (putF "size" a []) = ([("size", a), ("leave", b)] : List (Str × V)) := by rfl
example (a b c d e f : V) : putF "reach" f (putF "start" e (putF "modulus" d (putF "rest" c (putF "leave" b (putF "size" a []))))) = ([("size", a), ("leave", b), ("rest", c), ("modulus", d), ("start", e), ("reach", f)] : List (Str × V)) := by rfl
example (a b c d e f : V) : List.lookup ("start" : Str) [("size", a), ("leave", b), ("rest", c), ("modulus", d), ("start", e), ("reach", f)] = some e := by rfl
end RW
end

/-! ## F2 -/
section
set_option Elab.async false
set_option linter.all false
set_option maxRecDepth 100000
set_option maxHeartbeats 4000000
namespace RW
open PySem PySem.Spec PyProof.Rows L2
section
variable {w : World} {K : PySem.W.Frag} {mg : Str → Option Value} {base : Heap}
/-! ### rules' makers -/
def spRested (K : PySem.W.Frag) : Sp := fun vs H Q _ => ∃ (p C dx : Addr) (fs : List (Str × V)) (re mo : Int), vs = [.ref p, .int re, .int mo] ∧ H p = some (.ins C dx fs) ∧ Cls K C ∧ NoAttr K C "rest" ∧ NoAttr K C "modulus" ∧ fs.length < 900 ∧ 1 ≤ mo ∧ mo ≤ 6 ∧ 0 ≤ re ∧ re ≤ mo - 1 ∧
  Q .non (upd H p (.ins C dx (putF "modulus" (.int mo) (putF "rest" (.int re) fs))))
theorem putF_len (f : Str) (v : V) (fs : List (Str × V)) : (putF f v fs).length ≤ fs.length + 1 := by
  induction fs with
  | nil => simp [putF]
  | cons a r ih =>
    obtain ⟨x, y⟩ := a
    unfold putF
    split <;> simp <;> omega
theorem pl {f : Str} {v : V} {fs : List (Str × V)} {n : Nat} (h : fs.length < n) : (putF f v fs).length < n + 1 := Nat.lt_of_le_of_lt (putF_len f v fs) (Nat.add_lt_add_right h 1)
theorem ok_rested (T : Txt K mg) : F0 PP w K mg base 3 (a_Rested_init K) (spRested K) := by
  have S : FnScope ["self", "rest", "modulus"] ["self", "rest", "modulus"] (defScope s_Rested_init) := ⟨rfl, rfl, rfl, by decide +kernel, rfl, by decide +kernel, by decide +kernel⟩
  refine fd_ok T.f_Rested_init S (fun vs H Q E h => ?_) (fun _ _ _ _ _ _ us hl => match us, hl with | [_, _, _], _ => rfl) (fun cdv A outer s H vs Q E hr h => ?_)
  · obtain ⟨p, C, dx, fs, re, mo, rfl, _⟩ := h; rfl
  · obtain ⟨p, C, dx, fs, re, mo, rfl, hp, cl, n1, n2, hz, h1, h2, h3, h4, k⟩ := h
    obtain ⟨tk, hk⟩ := T.k_MOST_MODULUS
    refine ⟨_, pss_cons (ps_expr (c_call (ok_need_part T) hr T.g_need_part T.f_need_part.kp (pa_cons (pv 2) (pa_cons pe_int (pa_cons (pe_glob (v := .int 6) rfl hk ⟨_, rfl⟩) (pa_cons pe_str pa_nil))))))
      (pss_cons (ps_expr (c_call (ok_need_part T) hr T.g_need_part T.f_need_part.kp (pa_cons (pv 1) (pa_cons pe_int (pa_cons (pe_op op_sub (pv 2) pe_int) (pa_cons pe_str pa_nil))))))
      (pss_cons (ps_fld (pv 0) (pv 1) rfl) (pss_one (ps_fld (pv 0) (pv 2) rfl)))), ?_⟩
    refine ⟨_, rfl, _, _, _, _, rfl, h1, h2, ?_⟩
    refine ⟨_, rfl, _, rfl, _, _, rfl, rfl, _, _, _, _, rfl, h3, h4, ?_⟩
    refine ⟨_, rfl, _, rfl, p, C, dx, fs, rfl, hp, cl, n1, by omega, ?_⟩
    refine ⟨_, rfl, _, rfl, p, C, dx, _, rfl, upd_same, cl, n2, by have := putF_len "rest" (.int re) fs; omega, ?_⟩
    rw [upd_upd]
    exact k
def spSized (K : PySem.W.Frag) : Sp := fun vs H Q _ => ∃ (p C dx : Addr) (fs : List (Str × V)) (si le : Int), vs = [.ref p, .int si, .int le] ∧ H p = some (.ins C dx fs) ∧ Cls K C ∧ NoAttr K C "size" ∧ NoAttr K C "leave" ∧ fs.length < 900 ∧ 1 ≤ si ∧ si ≤ 400 ∧ 0 ≤ le ∧ le ≤ 400 ∧
  Q .non (upd H p (.ins C dx (putF "leave" (.int le) (putF "size" (.int si) fs))))
theorem ok_sized (T : Txt K mg) : F0 PP w K mg base 3 (a_Sized_init K) (spSized K) := by
  have S : FnScope ["self", "size", "leave"] ["self", "size", "leave"] (defScope s_Sized_init) := ⟨rfl, rfl, rfl, by decide +kernel, rfl, by decide +kernel, by decide +kernel⟩
  refine fd_ok T.f_Sized_init S (fun vs H Q E h => ?_) (fun _ _ _ _ _ _ us hl => match us, hl with | [_, _, _], _ => rfl) (fun cdv A outer s H vs Q E hr h => ?_)
  · obtain ⟨p, C, dx, fs, re, mo, rfl, _⟩ := h; rfl
  · obtain ⟨p, C, dx, fs, si, le, rfl, hp, cl, n1, n2, hz, h1, h2, h3, h4, k⟩ := h
    obtain ⟨tk, hk⟩ := T.k_MOST_NUMBER
    refine ⟨_, pss_cons (ps_expr (c_call (ok_need_part T) hr T.g_need_part T.f_need_part.kp (pa_cons (pv 1) (pa_cons pe_int (pa_cons (pe_glob (v := .int 400) rfl hk ⟨_, rfl⟩) (pa_cons pe_str pa_nil))))))
      (pss_cons (ps_expr (c_call (ok_need_part T) hr T.g_need_part T.f_need_part.kp (pa_cons (pv 2) (pa_cons pe_int (pa_cons (pe_glob (v := .int 400) rfl hk ⟨_, rfl⟩) (pa_cons pe_str pa_nil))))))
      (pss_cons (ps_fld (pv 0) (pv 1) rfl) (pss_one (ps_fld (pv 0) (pv 2) rfl)))), ?_⟩
    refine ⟨_, rfl, _, _, _, _, rfl, h1, h2, ?_⟩
    refine ⟨_, rfl, _, _, _, _, rfl, h3, h4, ?_⟩
    refine ⟨_, rfl, _, rfl, p, C, dx, fs, rfl, hp, cl, n1, by omega, ?_⟩
    refine ⟨_, rfl, _, rfl, p, C, dx, _, rfl, upd_same, cl, n2, by have := putF_len "size" (.int si) fs; omega, ?_⟩
    rw [upd_upd]
    exact k
/-- a rule's __init__ at a new instance, all arguments written -/
def spFixed (K : PySem.W.Frag) : Sp := fun vs H Q _ => ∃ (p dx : Addr) (r : Rl), r.dn = false ∧ r.Ok ∧ vs = [.ref p, sN r.nu, sN r.re, sN r.mo, sN r.le] ∧ H p = some (.ins (kFixed K) dx []) ∧ ∀ H', RuleAt K H' p r → (∀ b, b ≠ p → H' b = H b) → Q .non H'
theorem fixed_fs (r : Rl) (h : r.dn = false) : putF "reach" (sN r.nu) (putF "start" (.int ((r.nu : Int) + (r.le : Int))) (putF "modulus" (sN r.mo) (putF "rest" (sN r.re) (putF "leave" (sN r.le) (putF "size" (sN r.nu) []))))) = rFs r := by
  unfold rFs Rl.start Rl.reach
  rw [h]
  show _ = [(("size" : Str), sN r.nu), ("leave", sN r.le), ("rest", sN r.re), ("modulus", sN r.mo), ("start", sN (r.nu + r.le)), ("reach", sN r.nu)]
  have e : (V.int ((r.nu : Int) + (r.le : Int))) = sN (r.nu + r.le) := by unfold sN; rw [Int.natCast_add]
  rw [e]
  rfl
theorem ok_fixed0 (T : Txt K mg) : F0 PP w K mg base 4 (a_Fixed_init K) (spFixed K) := by
  have S : FnScope ["self", "size", "rest", "modulus", "leave"] ["self", "size", "rest", "modulus", "leave"] (defScope s_Fixed_init) := ⟨rfl, rfl, rfl, by decide +kernel, rfl, by decide +kernel, by decide +kernel⟩
  obtain ⟨fd, F⟩ := T.f_Fixed_init
  have hb : ∃ ds, Vals ([V.int 0, .int 1, .int 0].drop 3) ds ∧ Binds K fd ["self", "size", "rest", "modulus", "leave"] ds :=
    F.binds1 5 3 (by simp) rfl (fun T kV doc pm an cdv ct us its hu hi => match us, its, hu, hi with | [a, b, c, d, e], [x, y, z], _, _ => ⟨_, rfl, rfl⟩)
  obtain ⟨ds, hd, b⟩ := hb
  have G : FnOk PP w K mg base CX0 4 (a_Fixed_init K) fd ["self", "size", "rest", "modulus", "leave"] (spFixed K) := by
    refine F.ok S (fun vs H Q E h => ?_) (fun cdv A outer s H vs Q E hr h => ?_)
    · obtain ⟨p, dx, r, _, _, rfl, _⟩ := h; rfl
    · obtain ⟨p, dx, r, hdn, ok, rfl, hp, k⟩ := h
      refine ⟨_, PSs.nox (pss_cons (ps_expr (c_clsfn (pe_cls T.g_Sized) T.r_Sized T.cv_Sized_init T.f_Sized_init.kp (ok_sized T) hr (pa_cons (pv 0) (pa_cons (pv 1) (pa_cons (pv 4) pa_nil)))))
        (pss_cons (ps_expr (c_clsfn (pe_cls T.g_Rested) T.r_Rested T.cv_Rested_init T.f_Rested_init.kp (ok_rested T) hr (pa_cons (pv 0) (pa_cons (pv 2) (pa_cons (pv 3) pa_nil)))))
        (pss_cons (ps_fld (pv 0) (pe_op op_add (pv 1) (pv 4)) rfl) (pss_one (ps_fld (pv 0) (pv 1) rfl))))), ?_⟩
      have o := ok
      obtain ⟨o1, o2, o3, o4, o5, o6, o7⟩ := o
      have o6 := o6 hdn
      refine ⟨rfl, _, rfl, _, rfl, _, rfl, p, _, dx, [], _, _, rfl, hp, T.c_Fixed, T.n_Fixed_size, T.n_Fixed_leave, by decide, by omega, by omega, by omega, by omega, ?_⟩
      refine ⟨rfl, _, rfl, _, rfl, _, rfl, p, _, dx, _, _, _, rfl, upd_same, T.c_Fixed, T.n_Fixed_rest, T.n_Fixed_modulus, pl (pl (by decide)), by omega, by omega, by omega, by omega, ?_⟩
      rw [upd_upd]
      refine ⟨_, rfl, _, rfl, _, _, rfl, rfl, _, rfl, p, _, dx, _, rfl, upd_same, T.c_Fixed, T.n_Fixed_start, pl (pl (pl (pl (by decide)))), ?_⟩
      rw [upd_upd]
      refine ⟨_, rfl, _, rfl, p, _, dx, _, rfl, upd_same, T.c_Fixed, T.n_Fixed_reach, pl (pl (pl (pl (pl (by decide))))), ?_⟩
      rw [upd_upd]
      refine k _ ⟨dx, ?_, ok⟩ fun b hb => upd_ne hb
      rw [upd_same]
      unfold rCl
      rw [hdn]
      show some (HO.ins (kFixed K) dx (putF "reach" (sN r.nu) (putF "start" (.int ((r.nu : Int) + (r.le : Int))) (putF "modulus" (sN r.mo) (putF "rest" (sN r.re) (putF "leave" (sN r.le) (putF "size" (sN r.nu) []))))))) = _
      rw [fixed_fs r hdn]
      rfl
  have R := G.raw b hd
  exact R.imp fun vs H Q E h => by
    have e : vs ++ [V.int 0, .int 1, .int 0].drop 3 = vs := by simp
    rw [e]
    exact h
/-- Down(to, rest, modulus) -/
def spDown (K : PySem.W.Frag) : Sp := fun vs H Q _ => ∃ (p dx : Addr) (r : Rl), r.dn = true ∧ r.Ok ∧ vs = [.ref p, sN r.nu, sN r.re, sN r.mo] ∧ H p = some (.ins (kDown K) dx []) ∧ ∀ H', RuleAt K H' p r → (∀ b, b ≠ p → H' b = H b) → Q .non H'
theorem down_fs (r : Rl) (h : r.dn = true) : putF "reach" (.int 0) (putF "start" (.int ((r.nu : Int) + 1)) (putF "to" (sN r.nu) (putF "modulus" (sN r.mo) (putF "rest" (sN r.re) [])))) = rFs r := by
  unfold rFs Rl.start Rl.reach
  rw [h]
  rfl
theorem ok_down0 (T : Txt K mg) : F0 PP w K mg base 4 (a_Down_init K) (spDown K) := by
  have S : FnScope ["self", "to", "rest", "modulus"] ["self", "to", "rest", "modulus"] (defScope s_Down_init) := ⟨rfl, rfl, rfl, by decide +kernel, rfl, by decide +kernel, by decide +kernel⟩
  obtain ⟨fd, F⟩ := T.f_Down_init
  have hb : ∃ ds, Vals ([V.int 0, .int 1].drop 2) ds ∧ Binds K fd ["self", "to", "rest", "modulus"] ds :=
    F.binds1 4 2 (by simp) rfl (fun T kV doc pm an cdv ct us its hu hi => match us, its, hu, hi with | [a, b, c, d], [x, y], _, _ => ⟨_, rfl, rfl⟩)
  obtain ⟨ds, hd, b⟩ := hb
  have G : FnOk PP w K mg base CX0 4 (a_Down_init K) fd ["self", "to", "rest", "modulus"] (spDown K) := by
    refine F.ok S (fun vs H Q E h => ?_) (fun cdv A outer s H vs Q E hr h => ?_)
    · obtain ⟨p, dx, r, _, _, rfl, _⟩ := h; rfl
    · obtain ⟨p, dx, r, hdn, ok, rfl, hp, k⟩ := h
      obtain ⟨tk, hk⟩ := T.k_MOST_NUMBER
      refine ⟨_, PSs.nox (pss_cons (ps_expr (c_call (ok_need_part T) (hr.mono (by decide)) T.g_need_part T.f_need_part.kp (pa_cons (pv 1) (pa_cons pe_int (pa_cons (pe_glob (v := .int 400) rfl hk ⟨_, rfl⟩) (pa_cons pe_str pa_nil))))))
        (pss_cons (ps_expr (c_clsfn (pe_cls T.g_Rested) T.r_Rested T.cv_Rested_init T.f_Rested_init.kp (ok_rested T) hr (pa_cons (pv 0) (pa_cons (pv 2) (pa_cons (pv 3) pa_nil)))))
        (pss_cons (ps_fld (pv 0) (pv 1) rfl) (pss_cons (ps_fld (pv 0) (pe_op op_add (pv 1) pe_int) rfl) (pss_one (ps_fld (pv 0) pe_int rfl)))))), ?_⟩
      have o := ok
      obtain ⟨o1, o2, o3, o4, o5, o6, o7⟩ := o
      refine ⟨_, rfl, _, _, _, _, rfl, by omega, by omega, ?_⟩
      refine ⟨rfl, _, rfl, _, rfl, _, rfl, p, _, dx, _, _, _, rfl, hp, T.c_Down, T.n_Down_rest, T.n_Down_modulus, by decide, by omega, by omega, by omega, by omega, ?_⟩
      refine ⟨_, rfl, _, rfl, p, _, dx, _, rfl, upd_same, T.c_Down, T.n_Down_to, pl (pl (by decide)), ?_⟩
      rw [upd_upd]
      refine ⟨_, rfl, _, _, rfl, rfl, _, rfl, p, _, dx, _, rfl, upd_same, T.c_Down, T.n_Down_start, pl (pl (pl (by decide))), ?_⟩
      rw [upd_upd]
      refine ⟨_, rfl, p, _, dx, _, rfl, upd_same, T.c_Down, T.n_Down_reach, pl (pl (pl (pl (by decide)))), ?_⟩
      rw [upd_upd]
      refine k _ ⟨dx, ?_, ok⟩ fun b hb => upd_ne hb
      rw [upd_same]
      unfold rCl
      rw [hdn]
      show some (HO.ins (kDown K) dx (putF "reach" (.int 0) (putF "start" (.int ((r.nu : Int) + 1)) (putF "to" (sN r.nu) (putF "modulus" (sN r.mo) (putF "rest" (sN r.re) [])))))) = _
      rw [down_fs r hdn]
      rfl
  exact (G.raw b hd).imp fun vs H Q E h => by
    have e : vs ++ [V.int 0, .int 1].drop 2 = vs := by simp
    rw [e]
    exact h
/-! ### rules' methods -/
theorem rl_fix {H : Hp} {p : Addr} {r : Rl} (h : RuleAt K H p r) (hd : r.dn = false) : ∃ dx, H p = some (.ins (kFixed K) dx [("size", sN r.nu), ("leave", sN r.le), ("rest", sN r.re), ("modulus", sN r.mo), ("start", sN r.start), ("reach", sN r.reach)]) := by
  obtain ⟨dx, h, _⟩ := h
  unfold rCl rFs at h
  rw [hd] at h
  exact ⟨dx, h⟩
theorem rl_dn {H : Hp} {p : Addr} {r : Rl} (h : RuleAt K H p r) (hd : r.dn = true) : ∃ dx, H p = some (.ins (kDown K) dx [("rest", sN r.re), ("modulus", sN r.mo), ("to", sN r.nu), ("start", sN r.start), ("reach", sN r.reach)]) := by
  obtain ⟨dx, h, _⟩ := h
  unfold rCl rFs at h
  rw [hd] at h
  exact ⟨dx, h⟩
def spStands (K : PySem.W.Frag) (dn : Bool) : Sp := fun vs H Q _ => ∃ (p : Addr) (r : Rl) (n : Nat), vs = [.ref p, sN n] ∧ r.dn = dn ∧ (n : Int) ≤ heapMax ∧ RuleAt K H p r ∧ Q (.bl (r.st n)) H
theorem st_eq {r : Rl} {n : Nat} (o : r.Ok) : (decide ((n : Int) ≥ (r.start : Int)) && decide (V.int (Int.fmod (n : Int) (r.mo : Int)) = V.int (r.re : Int))) = r.st n := by
  have em : Int.fmod (n : Int) (r.mo : Int) = ((n % r.mo : Nat) : Int) := by
    rw [Int.fmod_eq_emod_of_nonneg _ (by omega)]; rfl
  unfold Rl.st
  rw [em]
  congr 1
  · simp
  · have : (V.int ((n % r.mo : Nat) : Int) = V.int (r.re : Int)) ↔ n % r.mo = r.re := by rw [vint]; omega
    simp only [this]
def spLeft (K : PySem.W.Frag) (dn : Bool) : Sp := fun vs H Q _ => ∃ (p : Addr) (r : Rl) (n : Nat), vs = [.ref p, sN n] ∧ r.dn = dn ∧ (n : Int) ≤ heapMax ∧ r.st n = true ∧ RuleAt K H p r ∧ Q (sN (r.lf n)) H
def spNumber (K : PySem.W.Frag) (dn : Bool) : Sp := fun vs H Q _ => ∃ (p : Addr) (r : Rl), vs = [.ref p] ∧ r.dn = dn ∧ RuleAt K H p r ∧ Q (sN r.key) H
theorem ok_Fixed_stands (T : Txt K mg) : F0 PP w K mg base 4 (a_Fixed_stands_at K) (spStands K false) := by
  have S : FnScope ["self", "n"] ["self", "n"] (defScope s_Fixed_stands_at) := ⟨rfl, rfl, rfl, by decide +kernel, rfl, by decide +kernel, by decide +kernel⟩
  refine fd_ok T.f_Fixed_stands_at S (fun vs H Q E h => ?_) (fun _ _ _ _ _ _ us hl => match us, hl with | [_, _], _ => rfl) (fun cdv A outer s H vs Q E hr h => ?_)
  · obtain ⟨p, r, n, rfl, _⟩ := h; rfl
  · obtain ⟨p, r, n, rfl, hd, hn, hR, k⟩ := h
    have o : r.Ok := let ⟨_, _, o⟩ := hR; o
    obtain ⟨dx, hp⟩ := rl_fix hR hd
    have e := st_eq (n := n) o
    refine ⟨_, pss_cons (ps_expr (c_call (ok_need_heap T) hr T.g_need_heap T.f_need_heap.kp (pa_cons (pv 1) pa_nil))) (pss_one (ps_ret (pe_and (pe_cmpR op_ge (pv 1) (pe_fld (pv 0) rfl) (nomark _)) (pe_one (pe_cmpR op_eq (pe_op op_modN (pv 1) (pe_fld (pv 0) rfl)) (pe_fld (pv 0) rfl) (nomark _)))))), ?_⟩
    refine ⟨_, rfl, _, rfl, by omega, hn, ?_⟩
    refine ⟨_, rfl, _, rfl, p, _, dx, _, _, rfl, hp, T.c_Fixed, T.n_Fixed_start, rfl, _, _, rfl, rfl, _, rfl, ?_⟩
    rw [← e] at k
    cases hc : decide ((n : Int) ≥ (r.start : Int)) with
    | false =>
      rw [hc] at k
      exact iteF k
    | true =>
      rw [hc] at k
      have o1 := o.mo1
      refine iteT ⟨_, rfl, _, rfl, p, _, dx, _, _, rfl, hp, T.c_Fixed, T.n_Fixed_modulus, rfl, _, _, rfl, rfl, by omega, _, rfl, p, _, dx, _, _, rfl, hp, T.c_Fixed, T.n_Fixed_rest, rfl, rfl, k⟩
theorem ok_Fixed_left (T : Txt K mg) : F0 PP w K mg base 5 (a_Fixed_left_at K) (spLeft K false) := by
  have S : FnScope ["self", "n"] ["self", "n"] (defScope s_Fixed_left_at) := ⟨rfl, rfl, rfl, by decide +kernel, rfl, by decide +kernel, by decide +kernel⟩
  refine fd_ok T.f_Fixed_left_at S (fun vs H Q E h => ?_) (fun _ _ _ _ _ _ us hl => match us, hl with | [_, _], _ => rfl) (fun cdv A outer s H vs Q E hr h => ?_)
  · obtain ⟨p, r, n, rfl, _⟩ := h; rfl
  · obtain ⟨p, r, n, rfl, hd, hn, hs, hR, k⟩ := h
    obtain ⟨dx, hp⟩ := rl_fix hR hd
    refine ⟨_, pss_cons (ps_if (pt_not (pt_val (c_meth (pv 0) T.c_Fixed T.m_Fixed_stands_at (ok_Fixed_stands T) hr (pa_cons (pv 1) pa_nil)))) (pss_one ps_never) pss_nil) (pss_one (ps_ret (pe_op op_sub (pv 1) (pe_fld (pv 0) rfl)))), ?_⟩
    refine ⟨_, rfl, p, dx, _, rfl, hp, rfl, _, rfl, p, r, n, rfl, hd, hn, hR, _, rfl, ?_⟩
    rw [hs]
    refine iteF ?_
    refine ⟨_, rfl, _, rfl, p, _, dx, _, _, rfl, hp, T.c_Fixed, T.n_Fixed_size, rfl, _, _, rfl, rfl, ?_⟩
    have e : (n : Int) - (r.nu : Int) = (r.lf n : Nat) := by
      have h2 : r.start ≤ n := by
        unfold Rl.st at hs
        simp at hs
        exact hs.1
      unfold Rl.start at h2
      unfold Rl.lf
      rw [hd] at h2 ⊢
      simp only [Bool.false_eq_true, if_false] at h2 ⊢
      omega
    unfold sN at k
    rw [← e] at k
    exact k
theorem ok_Fixed_number (T : Txt K mg) : F0 PP w K mg base 1 (a_Fixed_number_in_order K) (spNumber K false) := by
  have S : FnScope ["self"] ["self"] (defScope s_Fixed_number_in_order) := ⟨rfl, rfl, rfl, by decide +kernel, rfl, by decide +kernel, by decide +kernel⟩
  refine fd_ok T.f_Fixed_number_in_order S (fun vs H Q E h => ?_) (fun _ _ _ _ _ _ us hl => match us, hl with | [_], _ => rfl) (fun cdv A outer s H vs Q E hr h => ?_)
  · obtain ⟨p, r, rfl, _⟩ := h; rfl
  · obtain ⟨p, r, rfl, hd, hR, k⟩ := h
    have o : r.Ok := let ⟨_, _, o⟩ := hR; o
    obtain ⟨o1, o2, o3, o4, o5, o6, o7⟩ := o
    obtain ⟨dx, hp⟩ := rl_fix hR hd
    refine ⟨_, pss_one (ps_ret (pe_op op_add (pe_op op_mul (pe_op op_add (pe_op op_mul (pe_op op_add (pe_op op_mul (pe_fld (pv 0) rfl) pe_int) (pe_fld (pv 0) rfl)) pe_int) (pe_fld (pv 0) rfl)) pe_int) (pe_fld (pv 0) rfl))), ?_⟩
    refine ⟨_, rfl, p, _, dx, _, _, rfl, hp, T.c_Fixed, T.n_Fixed_size, rfl, _, _, rfl, rfl, .inl ⟨by omega, by omega⟩, ?_⟩
    refine ⟨_, rfl, p, _, dx, _, _, rfl, hp, T.c_Fixed, T.n_Fixed_modulus, rfl, _, _, rfl, rfl, _, _, rfl, rfl, .inl ⟨by omega, by omega⟩, ?_⟩
    refine ⟨_, rfl, p, _, dx, _, _, rfl, hp, T.c_Fixed, T.n_Fixed_rest, rfl, _, _, rfl, rfl, _, _, rfl, rfl, .inl ⟨by omega, by omega⟩, ?_⟩
    refine ⟨_, rfl, p, _, dx, _, _, rfl, hp, T.c_Fixed, T.n_Fixed_leave, rfl, _, _, rfl, rfl, ?_⟩
    have e : (((r.nu : Int) * 7 + r.mo) * 7 + r.re) * 1000 + r.le = (r.key : Nat) := by
      unfold Rl.key
      rw [hd]
      simp only [Bool.false_eq_true, if_false]
      omega
    unfold sN at k
    rw [← e] at k
    exact k

theorem ok_Down_stands (T : Txt K mg) : F0 PP w K mg base 4 (a_Down_stands_at K) (spStands K true) := by
  have S : FnScope ["self", "n"] ["self", "n"] (defScope s_Down_stands_at) := ⟨rfl, rfl, rfl, by decide +kernel, rfl, by decide +kernel, by decide +kernel⟩
  refine fd_ok T.f_Down_stands_at S (fun vs H Q E h => ?_) (fun _ _ _ _ _ _ us hl => match us, hl with | [_, _], _ => rfl) (fun cdv A outer s H vs Q E hr h => ?_)
  · obtain ⟨p, r, n, rfl, _⟩ := h; rfl
  · obtain ⟨p, r, n, rfl, hd, hn, hR, k⟩ := h
    have o : r.Ok := let ⟨_, _, o⟩ := hR; o
    obtain ⟨dx, hp⟩ := rl_dn hR hd
    have e := st_eq (n := n) o
    refine ⟨_, pss_cons (ps_expr (c_call (ok_need_heap T) hr T.g_need_heap T.f_need_heap.kp (pa_cons (pv 1) pa_nil))) (pss_one (ps_ret (pe_and (pe_cmpR op_ge (pv 1) (pe_fld (pv 0) rfl) (nomark _)) (pe_one (pe_cmpR op_eq (pe_op op_modN (pv 1) (pe_fld (pv 0) rfl)) (pe_fld (pv 0) rfl) (nomark _)))))), ?_⟩
    refine ⟨_, rfl, _, rfl, by omega, hn, ?_⟩
    refine ⟨_, rfl, _, rfl, p, _, dx, _, _, rfl, hp, T.c_Down, T.n_Down_start, rfl, _, _, rfl, rfl, _, rfl, ?_⟩
    rw [← e] at k
    cases hc : decide ((n : Int) ≥ (r.start : Int)) with
    | false =>
      rw [hc] at k
      exact iteF k
    | true =>
      rw [hc] at k
      have o1 := o.mo1
      refine iteT ⟨_, rfl, _, rfl, p, _, dx, _, _, rfl, hp, T.c_Down, T.n_Down_modulus, rfl, _, _, rfl, rfl, by omega, _, rfl, p, _, dx, _, _, rfl, hp, T.c_Down, T.n_Down_rest, rfl, rfl, k⟩
theorem ok_Down_left (T : Txt K mg) : F0 PP w K mg base 5 (a_Down_left_at K) (spLeft K true) := by
  have S : FnScope ["self", "n"] ["self", "n"] (defScope s_Down_left_at) := ⟨rfl, rfl, rfl, by decide +kernel, rfl, by decide +kernel, by decide +kernel⟩
  refine fd_ok T.f_Down_left_at S (fun vs H Q E h => ?_) (fun _ _ _ _ _ _ us hl => match us, hl with | [_, _], _ => rfl) (fun cdv A outer s H vs Q E hr h => ?_)
  · obtain ⟨p, r, n, rfl, _⟩ := h; rfl
  · obtain ⟨p, r, n, rfl, hd, hn, hs, hR, k⟩ := h
    obtain ⟨dx, hp⟩ := rl_dn hR hd
    refine ⟨_, pss_cons (ps_if (pt_not (pt_val (c_meth (pv 0) T.c_Down T.m_Down_stands_at (ok_Down_stands T) hr (pa_cons (pv 1) pa_nil)))) (pss_one ps_never) pss_nil) (pss_one (ps_ret (pe_fld (pv 0) rfl))), ?_⟩
    refine ⟨_, rfl, p, dx, _, rfl, hp, rfl, _, rfl, p, r, n, rfl, hd, hn, hR, _, rfl, ?_⟩
    rw [hs]
    refine iteF ?_
    refine ⟨_, rfl, p, _, dx, _, _, rfl, hp, T.c_Down, T.n_Down_to, rfl, ?_⟩
    have e : r.nu = r.lf n := by
      unfold Rl.lf
      rw [hd]
      rfl
    rw [← e] at k
    exact k
theorem ok_Down_number (T : Txt K mg) : F0 PP w K mg base 1 (a_Down_number_in_order K) (spNumber K true) := by
  have S : FnScope ["self"] ["self"] (defScope s_Down_number_in_order) := ⟨rfl, rfl, rfl, by decide +kernel, rfl, by decide +kernel, by decide +kernel⟩
  refine fd_ok T.f_Down_number_in_order S (fun vs H Q E h => ?_) (fun _ _ _ _ _ _ us hl => match us, hl with | [_], _ => rfl) (fun cdv A outer s H vs Q E hr h => ?_)
  · obtain ⟨p, r, rfl, _⟩ := h; rfl
  · obtain ⟨p, r, rfl, hd, hR, k⟩ := h
    have o : r.Ok := let ⟨_, _, o⟩ := hR; o
    obtain ⟨o1, o2, o3, o4, o5, o6, o7⟩ := o
    obtain ⟨dx, hp⟩ := rl_dn hR hd
    refine ⟨_, pss_one (ps_ret (pe_op op_mul (pe_op op_add (pe_op op_mul (pe_op op_add (pe_op op_mul (pe_op op_add pe_int (pe_fld (pv 0) rfl)) pe_int) (pe_fld (pv 0) rfl)) pe_int) (pe_fld (pv 0) rfl)) pe_int)), ?_⟩
    refine ⟨_, rfl, p, _, dx, _, _, rfl, hp, T.c_Down, T.n_Down_to, rfl, _, _, rfl, rfl, _, _, rfl, rfl, .inl ⟨by omega, by omega⟩, ?_⟩
    refine ⟨_, rfl, p, _, dx, _, _, rfl, hp, T.c_Down, T.n_Down_modulus, rfl, _, _, rfl, rfl, _, _, rfl, rfl, .inl ⟨by omega, by omega⟩, ?_⟩
    refine ⟨_, rfl, p, _, dx, _, _, rfl, hp, T.c_Down, T.n_Down_rest, rfl, _, _, rfl, rfl, _, _, rfl, rfl, .inl ⟨by omega, by omega⟩, ?_⟩
    have e : ((((1000 : Int) + r.nu) * 7 + r.mo) * 7 + r.re) * 1000 = (r.key : Nat) := by
      unfold Rl.key
      rw [hd]
      simp only [if_true]
      omega
    unfold sN at k
    rw [← e] at k
    exact k
end
end RW
end

/-! ## F3 -/
section
set_option Elab.async false
set_option linter.all false
set_option maxRecDepth 100000
set_option maxHeartbeats 4000000
namespace RW
open PySem PySem.Spec PyProof.Rows L2
/-! ### rows of rules, books -/
def RulesAt (K : PySem.W.Frag) (H : Hp) (vs : List V) (rs : List Rl) : Prop := vs.length = rs.length ∧ ∀ (i : Nat) (r : Rl), rs[i]? = some r → ∃ p, vs[i]? = some (.ref p) ∧ RuleAt K H p r
theorem RulesAt.kp {K : PySem.W.Frag} {H H' : Hp} {vs : List V} {rs : List Rl} (h : RulesAt K H vs rs) (k : GF.Kp H H') : RulesAt K H' vs rs := ⟨h.1, fun i r e => let ⟨p, e1, e2⟩ := h.2 i r e; ⟨p, e1, e2.kp k⟩⟩
theorem RulesAt.at_ {K : PySem.W.Frag} {H : Hp} {vs : List V} {rs : List Rl} (h : RulesAt K H vs rs) {i : Nat} {x : V} (e : vs[i]? = some x) : ∃ p r, rs[i]? = some r ∧ x = .ref p ∧ RuleAt K H p r := by
  have hi : i < rs.length := by rw [← h.1]; exact (List.getElem?_eq_some_iff.mp e).1
  obtain ⟨p, e1, e2⟩ := h.2 i rs[i] (List.getElem?_eq_getElem hi)
  rw [e] at e1
  exact ⟨p, rs[i], List.getElem?_eq_getElem hi, Option.some.inj e1, e2⟩
theorem Rl.Ok.mo_dvd {r : Rl} (o : r.Ok) : r.mo ∣ 6 := by
  have h1 := o.mo1
  have h2 := o.mo6
  have : r.mo = 1 ∨ r.mo = 2 ∨ r.mo = 3 := by omega
  rcases this with e | e | e <;> rw [e] <;> decide
section
variable {w : World} {K : PySem.W.Frag} {mg : Str → Option Value} {base : Heap}
theorem rl_mo (T : Txt K mg) {H : Hp} {p : Addr} {r : Rl} (h : RuleAt K H p r) : ∃ C dx fs, H p = some (.ins C dx fs) ∧ Cls K C ∧ NoAttr K C "modulus" ∧ fs.lookup ("modulus" : Str) = some (sN r.mo) := by
  cases hd : r.dn with
  | false => obtain ⟨dx, h⟩ := rl_fix h hd; exact ⟨_, dx, _, h, T.c_Fixed, T.n_Fixed_modulus, rfl⟩
  | true => obtain ⟨dx, h⟩ := rl_dn h hd; exact ⟨_, dx, _, h, T.c_Down, T.n_Down_modulus, rfl⟩
theorem rl_st (T : Txt K mg) {H : Hp} {p : Addr} {r : Rl} (h : RuleAt K H p r) : ∃ C dx fs, H p = some (.ins C dx fs) ∧ Cls K C ∧ NoAttr K C "start" ∧ fs.lookup ("start" : Str) = some (sN r.start) := by
  cases hd : r.dn with
  | false => obtain ⟨dx, h⟩ := rl_fix h hd; exact ⟨_, dx, _, h, T.c_Fixed, T.n_Fixed_start, rfl⟩
  | true => obtain ⟨dx, h⟩ := rl_dn h hd; exact ⟨_, dx, _, h, T.c_Down, T.n_Down_start, rfl⟩
theorem rl_re (T : Txt K mg) {H : Hp} {p : Addr} {r : Rl} (h : RuleAt K H p r) : ∃ C dx fs, H p = some (.ins C dx fs) ∧ Cls K C ∧ NoAttr K C "reach" ∧ fs.lookup ("reach" : Str) = some (sN r.reach) := by
  cases hd : r.dn with
  | false => obtain ⟨dx, h⟩ := rl_fix h hd; exact ⟨_, dx, _, h, T.c_Fixed, T.n_Fixed_reach, rfl⟩
  | true => obtain ⟨dx, h⟩ := rl_dn h hd; exact ⟨_, dx, _, h, T.c_Down, T.n_Down_reach, rfl⟩
theorem rl_ty (T : Txt K mg) {H : Hp} {p : Addr} {r : Rl} (h : RuleAt K H p r) : ∃ t, TyOf K H (.ref p) t ∧ PySem.W.kitOne K t (.ref (kRule K)) = some true := by
  cases hd : r.dn with
  | false => obtain ⟨dx, h⟩ := rl_fix h hd; exact ⟨_, .ins h T.c_Fixed T.ty_Fixed.ha T.ty_Fixed.hn T.ty_Fixed.htk T.ty_Fixed.hm, T.ki_Fixed_Rule⟩
  | true => obtain ⟨dx, h⟩ := rl_dn h hd; exact ⟨_, .ins h T.c_Down T.ty_Down.ha T.ty_Down.hn T.ty_Down.htk T.ty_Down.hm, T.ki_Down_Rule⟩
/-- a method of either class -/
theorem rd2 {t : TA} {σ : L2.St} {H : Hp} {p : Addr} {r : Rl} {sp : Bool → Sp} {m : Str} {Q : VK} (h : RuleAt K H p r) (hm : ∀ b : Bool, (rFs { r with dn := b }).lookup m = none) (q : t σ H fun vs H2 => sp r.dn (.ref p :: vs) H2 Q E0) :
    ∃ a dx fs, V.ref p = .ref a ∧ fs.lookup m = none ∧ ((H a = some (.ins (kFixed K) dx fs) ∧ t σ H fun vs H2 => sp false (.ref p :: vs) H2 Q E0) ∨ (H a = some (.ins (kDown K) dx fs) ∧ t σ H fun vs H2 => sp true (.ref p :: vs) H2 Q E0)) := by
  obtain ⟨dx, h, _⟩ := h
  have e : { r with dn := r.dn } = r := rfl
  refine ⟨p, dx, rFs r, rfl, by rw [← e]; exact hm r.dn, ?_⟩
  unfold rCl at h
  cases hd : r.dn with
  | false => rw [hd] at h q; exact .inl ⟨h, q⟩
  | true => rw [hd] at h q; exact .inr ⟨h, q⟩
section
variable {X : Cx} {o : Expr} {ta : TE} {t : TA} {e : Expr} {apos pos : Pos}
end
/-! ### common_modulus -/
def spCMod (K : PySem.W.Frag) : Sp := fun vs H Q _ => ∃ (t : Addr) (us : List V) (rs : List Rl), vs = [.ref t] ∧ H t = some (.tup us) ∧ RulesAt K H us rs ∧ ∀ m : Nat, 1 ≤ m → m ∣ 6 → (∀ r ∈ rs, r.mo ∣ m) → Q (sN m) H
theorem ok_common_modulus (T : Txt K mg) : F0 PP w K mg base 2 (a_common_modulus K) (spCMod K) := by
  have S : FnScope ["rules", "found", "rule"] ["rules"] (defScope s_common_modulus) := ⟨rfl, rfl, rfl, by decide +kernel, rfl, by decide +kernel, by decide +kernel⟩
  refine fd_ok T.f_common_modulus S (fun vs H Q E h => ?_) (fun _ _ _ _ _ _ us hl => match us, hl with | [_], _ => rfl) (fun cdv A outer s H vs Q E hr h => ?_)
  · obtain ⟨t, us, rs, rfl, _⟩ := h; rfl
  · obtain ⟨t, us, rs, rfl, ht, hR, k⟩ := h
    obtain ⟨tk, hk⟩ := T.k_MOST_COMMON
    refine ⟨_, pss_cons (ps_set (i := 1) S.nd rfl (.inl rfl) pe_int) (pss_cons (ps_for PassesOwn.never rfl (pi_tup (pv 0)) (pg_name (i := 2) S.nd rfl (.inl rfl))
      (pss_cons (ps_set (i := 1) S.nd rfl (.inl rfl) (c_call (ok_common_multiple T) hr T.g_common_multiple T.f_common_multiple.kp (pa_cons (pv 1) (pa_cons (pe_fld (pv 2) rfl) pa_nil))))
        (pss_one (ps_if (pt_cmpR op_gt (pv 1) (pe_glob (v := .int 12) rfl hk ⟨_, rfl⟩) (nomark _)) (pss_one ps_never) pss_nil))))
      (pss_one (ps_ret (pv 1)))), ?_⟩
    refine ⟨_, rfl, t, rfl, ⟨us, .inl (.inl ht)⟩, for_tup (K := K) (a := t) (xs := us) (fun i σ H' => H' = H ∧ ∃ (m : Nat) (v : Option V), σ = [some (.ref t), some (sN m), v] ∧ 1 ≤ m ∧ m ∣ 6 ∧ ∀ (j : Nat) (r : Rl), j < i → rs[j]? = some r → r.mo ∣ m)
      ⟨rfl, 1, none, rfl, Nat.le_refl _, by decide, fun j r h => absurd h (Nat.not_lt_zero _)⟩ (fun i σ H' _ ⟨e, _⟩ => by rw [e]; exact .inl (.inl ht)) ?_ ?_⟩
    · rintro i x σ H' hx ⟨rfl, m, v, rfl, h1, h6, hd⟩
      obtain ⟨p, r, er, rfl, hp⟩ := hR.at_ hx
      have o : r.Ok := let ⟨_, _, o⟩ := hp; o
      obtain ⟨C, dx, fs, hH, cl, na, lk⟩ := rl_mo T hp
      refine ⟨_, rfl, _, rfl, p, C, dx, fs, _, rfl, hH, cl, na, lk, m, r.mo, rfl, h1, o.mo1, ?_⟩
      have hl6 : Nat.lcm m r.mo ∣ 6 := Nat.lcm_dvd h6 o.mo_dvd
      have hle : Nat.lcm m r.mo ≤ 6 := Nat.le_of_dvd (by decide) hl6
      refine ⟨_, rfl, _, _, rfl, rfl, _, rfl, ?_⟩
      refine ite2 (fun hgt => ?_) (fun _ => ?_)
      · exfalso
        have := of_decide_eq_true hgt
        omega
      · refine ⟨rfl, Nat.lcm m r.mo, _, rfl, Nat.lcm_pos h1 o.mo1, hl6, fun j r' hj e => ?_⟩
        by_cases hji : j < i
        · exact Nat.dvd_trans (hd j r' hji e) (Nat.dvd_lcm_left _ _)
        · have : j = i := by omega
          subst this
          rw [er] at e
          cases e
          exact Nat.dvd_lcm_right _ _
    · rintro σ H' ⟨rfl, m, v, rfl, h1, h6, hd⟩
      refine ⟨_, rfl, k m h1 h6 fun r hr => ?_⟩
      obtain ⟨j, hj, e⟩ := List.mem_iff_getElem.mp hr
      exact hd j r (by rw [hR.1]; exact hj) (by rw [List.getElem?_eq_getElem hj, e])
end
end RW
end

/-! ## F4 -/
section
set_option Elab.async false
set_option linter.all false
set_option maxRecDepth 100000
set_option maxHeartbeats 4000000
namespace RW
open PySem PySem.Spec PyProof.Rows L2
/-! ### dicts with int keys -/
def keysN (kvs : List (Key × V)) (ks : List Int) : Prop := kvs.map (·.1) = ks.map Sum.inl ∧ ks.Nodup
theorem keysN.nil : keysN [] [] := ⟨rfl, List.nodup_nil⟩
theorem keysN.mem {kvs : List (Key × V)} {ks : List Int} (h : keysN kvs ks) {n : Int} : n ∈ ks ↔ (valV kvs (Sum.inl n)).isSome = true := by
  have e : n ∈ ks ↔ (Sum.inl n : Key) ∈ kvs.map (·.1) := by
    rw [h.1]
    exact ⟨fun q => List.mem_map_of_mem q, fun q => by
      obtain ⟨m, hm, e⟩ := List.mem_map.mp q
      cases e
      exact hm⟩
  rw [e, ← valV_any]
  constructor
  · intro q
    obtain ⟨kv, hk, e⟩ := List.mem_map.mp q
    exact List.any_eq_true.mpr ⟨kv, hk, decide_eq_true e⟩
  · intro q
    obtain ⟨kv, hk, e⟩ := List.any_eq_true.mp q
    exact List.mem_map.mpr ⟨kv, hk, of_decide_eq_true e⟩
theorem keysN.put {kvs : List (Key × V)} {ks : List Int} (h : keysN kvs ks) (n : Int) (v : V) : ∃ ks', keysN (putK kvs (Sum.inl n) v) ks' ∧ ∀ x, x ∈ ks' ↔ x ∈ ks ∨ x = n := by
  by_cases hn : n ∈ ks
  · refine ⟨ks, ⟨?_, h.2⟩, fun x => ⟨.inl, fun q => q.elim id fun e => e ▸ hn⟩⟩
    have a : (kvs.any fun kv => decide (kv.1 = Sum.inl n)) = true := by rw [valV_any]; exact h.mem.mp hn
    unfold putK
    rw [if_pos a, ← h.1, List.map_map]
    apply List.map_congr_left
    intro kv _
    simp only [Function.comp]
    split <;> rfl
  · have hv : valV kvs (Sum.inl n) = none := by
      cases q : valV kvs (Sum.inl n) with
      | none => rfl
      | some z => exact absurd (h.mem.mpr (by rw [q]; rfl)) hn
    refine ⟨ks ++ [n], ⟨?_, ?_⟩, fun x => by simp⟩
    · rw [putK_new v hv, List.map_append, List.map_append, h.1]
      rfl
    · rw [List.nodup_append]
      refine ⟨h.2, by simp, fun a ha b hb => ?_⟩
      have : b = n := by simpa using hb
      subst this
      exact fun e => hn (e ▸ ha)
theorem keysN.len {kvs : List (Key × V)} {ks : List Int} (h : keysN kvs ks) : kvs.length = ks.length := by
  have := congrArg List.length h.1
  simpa using this
theorem keysN.at_ {kvs : List (Key × V)} {ks : List Int} (h : keysN kvs ks) {i : Nat} {k : Key} {v : V} (e : kvs[i]? = some (k, v)) : ∃ n, ks[i]? = some n ∧ k = Sum.inl n := by
  have e2 : (kvs.map (·.1))[i]? = some k := by rw [List.getElem?_map, e]; rfl
  rw [h.1, List.getElem?_map] at e2
  cases q : ks[i]? with
  | none => rw [q] at e2; cases e2
  | some n => rw [q] at e2; exact ⟨n, rfl, (Option.some.inj e2).symm⟩
theorem sorted_ext : ∀ {l l' : List Int}, l.Pairwise (· < ·) → l'.Pairwise (· < ·) → (∀ x, x ∈ l ↔ x ∈ l') → l = l'
  | [], [], _, _, _ => rfl
  | [], b :: _, _, _, h => by have := (h b).mpr List.mem_cons_self; cases this
  | a :: _, [], _, _, h => by have := (h a).mp List.mem_cons_self; cases this
  | a :: l, b :: l', p, p', h => by
    obtain ⟨p1, p2⟩ := List.pairwise_cons.mp p
    obtain ⟨q1, q2⟩ := List.pairwise_cons.mp p'
    have hab : a = b := by
      rcases List.mem_cons.mp ((h a).mp List.mem_cons_self) with e | e
      · exact e
      · rcases List.mem_cons.mp ((h b).mpr List.mem_cons_self) with e' | e'
        · exact e'.symm
        · have := q1 a e; have := p1 b e'; omega
    subst hab
    rw [sorted_ext p2 q2 fun x => ⟨fun hx => ?_, fun hx => ?_⟩]
    · rcases List.mem_cons.mp ((h x).mp (List.mem_cons_of_mem _ hx)) with e | e
      · have := p1 x hx; omega
      · exact e
    · rcases List.mem_cons.mp ((h x).mpr (List.mem_cons_of_mem _ hx)) with e | e
      · have := q1 x hx; omega
      · exact e
theorem strict_of {l : List Int} (h : l.Pairwise (· ≤ ·)) (nd : l.Nodup) : l.Pairwise (· < ·) := by
  have := List.Pairwise.and h nd
  exact this.imp fun {a b} q => by
    have := q.1; have := q.2; omega
/-- H kept but for the address p -/
theorem kp_upd_new {H : Hp} {p : Addr} {o : HO} (h : H p = none) : GF.Kp H (upd H p o) := fun b u e _ => by rw [upd_ne (ne_of_none e h)]; exact e
theorem kp_upd_lst {H : Hp} {p : Addr} {o : HO} {xs : List V} (h : H p = some (.lst xs)) : GF.Kp H (upd H p o) := fun b u e q => by
  rw [upd_ne (fun z => by rw [z, h] at e; cases e; cases q)]; exact e
theorem same_upd {H : Hp} {p : Addr} {o : HO} (h : H p = none) : Same H (upd H p o) := fun b u e => by rw [upd_ne (ne_of_none e h)]; exact e
theorem same_upd2 {H H1 : Hp} {p : Addr} {o : HO} (s : Same H H1) (h : H p = none) : Same H (upd H1 p o) := fun b u e => by rw [upd_ne (ne_of_none e h)]; exact s b u e
theorem same_upd3 {H H1 : Hp} {p : Addr} {o : HO} (s : Same H H1) (h : H1 p = none) : Same H (upd H1 p o) := same_upd2 s (s.free h)
section
variable {w : World} {K : PySem.W.Frag} {mg : Str → Option Value} {base : Heap}
/-! ### in_order -/
def RuleVs (K : PySem.W.Frag) (H : Hp) (rs : List Rl) (i : Nat) (kvs : List (Key × V)) : Prop := ∃ ks, keysN kvs ks ∧ ks.length ≤ i ∧ (∀ n, n ∈ ks → ∃ (r : Rl) (p : Addr), r ∈ rs ∧ n = (r.key : Int) ∧ valV kvs (Sum.inl n) = some (.ref p) ∧ RuleAt K H p r) ∧ ∀ (j : Nat) (r : Rl), j < i → rs[j]? = some r → (r.key : Int) ∈ ks
theorem pick_rules {H : Hp} {rs : List Rl} {kvs : List (Key × V)} : ∀ {ns : List Int}, (∀ n ∈ ns, ∃ (r : Rl) (p : Addr), r ∈ rs ∧ n = (r.key : Int) ∧ valV kvs (Sum.inl n) = some (.ref p) ∧ RuleAt K H p r) →
    ∃ qs : List Rl, qs.length = ns.length ∧ ∀ (i : Nat) (n : Int), ns[i]? = some n → ∃ (r : Rl) (p : Addr), qs[i]? = some r ∧ r ∈ rs ∧ n = (r.key : Int) ∧ valV kvs (Sum.inl n) = some (.ref p) ∧ RuleAt K H p r
  | [], _ => ⟨[], rfl, fun i n e => by simp at e⟩
  | n :: ns, h => by
    obtain ⟨qs, hl, hq⟩ := pick_rules fun m hm => h m (List.mem_cons_of_mem _ hm)
    obtain ⟨r, p, h1⟩ := h n List.mem_cons_self
    refine ⟨r :: qs, by simp [hl], fun i m e => ?_⟩
    cases i with
    | zero => simp at e; subst e; exact ⟨r, p, rfl, h1⟩
    | succ i => exact hq i m (by simpa using e)
/-- the rules, each key once -/
def spInOrder (K : PySem.W.Frag) : Sp := fun vs H Q _ => ∃ (t : Addr) (us : List V) (rs : List Rl), vs = [.ref t] ∧ H t = some (.tup us) ∧ RulesAt K H us rs ∧ us.length ≤ 1000 ∧
  ∀ (p : Addr) (H' : Hp) (ws : List V) (qs : List Rl), Same H H' → H p = none → H' p = some (.tup ws) → RulesAt K H' ws qs → qs.length ≤ rs.length → (∀ r ∈ qs, r ∈ rs) → (∀ r ∈ rs, ∃ q ∈ qs, q.key = r.key) → Q (.ref p) H'
theorem ok_in_order (T : Txt K mg) : F0 PP w K mg base 2 (a_in_order K) (spInOrder K) := by
  have S : FnScope ["rules", "known", "rule", "number"] ["rules"] (defScope s_in_order) := ⟨rfl, rfl, rfl, by decide +kernel, rfl, by decide +kernel, by decide +kernel⟩
  refine fd_ok T.f_in_order S (fun vs H Q E h => ?_) (fun _ _ _ _ _ _ us hl => match us, hl with | [_], _ => rfl) (fun cdv A outer s H vs Q E hr h => ?_)
  · obtain ⟨t, us, rs, rfl, _⟩ := h; rfl
  · obtain ⟨t, us, rs, rfl, ht, hR, hz, k⟩ := h
    have hu := hu_of hr
    have nd := S.nd
    refine ⟨_, pss_cons (ps_set (i := 1) nd rfl (.inr rfl) (pe_dc (own := [("rule", 2)]) (g := gName 2) (tt := tYes) rfl nd (pi_tup (pv 0)) (blkOk_by (own := [("rule", 2)]) (N := ["rules", "known", "rule", "number"]) (sc := defScope s_in_order) (by decide +kernel)) (fun _ _ _ _ _ => pg_name (i := 2) nd rfl (Or.inl rfl)) (fun _ _ _ _ _ => pts_nil)
        (fun _ _ _ _ _ => c_meth20 (pv 2) T.c_Fixed T.m_Fixed_number_in_order (ok_Fixed_number T) hr T.c_Down T.m_Down_number_in_order (ok_Down_number T) hr) (fun _ _ _ _ _ => pv 2)))
      (pss_one (ps_ret (pe_callTy call_tuple_of (by rfl) T.z_tuple boot_tuple (pa_cons (pe_lc (own := [("number", 3)]) (g := gName 3) (tt := tYes) rfl nd
          (pi_list (pe_callB cr_sortedI (by rfl) T.z_sorted boot_sorted (pa_cons (pe_lock (pe_lc (own := [("number", 3)]) (g := gName 3) (tt := tYes) rfl nd (pi_keys (pv 1)) (blkOk_by (own := [("number", 3)]) (N := ["rules", "known", "rule", "number"]) (sc := defScope s_in_order) (by decide +kernel)) (fun _ _ _ _ _ => pg_name (i := 3) nd rfl (Or.inl rfl)) (fun _ _ _ _ _ => pts_nil)
            (fun _ _ _ _ _ => pe_callTy call_int1 (by rfl) T.z_int boot_int (pa_cons (pv 3) pa_nil)))) pa_nil)))
          (blkOk_by (own := [("number", 3)]) (N := ["rules", "known", "rule", "number"]) (sc := defScope s_in_order) (by decide +kernel)) (fun _ _ _ _ _ => pg_name (i := 3) nd rfl (Or.inl rfl)) (fun _ _ _ _ _ => pts_nil)
          (fun _ _ _ _ _ => pe_dget hu (pv 1) (pv 3) (fun _ _ => rfl))) pa_nil)))), ?_⟩
    refine ⟨_, rfl, t, rfl, ⟨us, .inl (.inl ht)⟩, fun D hD => dc_tup (K := K) (a := t) (xs := us) (fun i H' => ∃ kvs, H' = upd H D (.dK kvs) ∧ RuleVs K H rs i kvs)
      ⟨[], rfl, [], keysN.nil, Nat.le_refl _, fun n h => by simp at h, fun j r h => absurd h (Nat.not_lt_zero _)⟩ (fun i H' _ ⟨kvs, e, _⟩ => by rw [e]; exact .inl (.inl (same_upd hD _ _ ht))) ?_ ?_⟩
    · rintro i x H' hx ⟨kvs, rfl, ks, hks, hkl, hk1, hk2⟩
      obtain ⟨p, r, er, rfl, hp⟩ := hR.at_ hx
      have hp' : RuleAt K (upd H D (.dK kvs)) p r := hp.kp (kp_upd_new hD)
      refine ⟨rfl, _, rfl, rd2 (sp := spNumber K) hp' (fun b => by cases b <;> rfl) ⟨p, r, rfl, rfl, hp', ⟨_, rfl, kvs, Sum.inl (r.key : Int), rfl, upd_same, ?_, ?_⟩⟩⟩
      · rw [hks.len]
        have : i < us.length := (List.getElem?_eq_some_iff.mp hx).1
        exact small1000 (by omega)
      · rw [upd_upd]
        obtain ⟨ks', hks', hm⟩ := hks.put (r.key : Int) (.ref p)
        refine ⟨_, rfl, ks', hks', ?_, fun n hn => ?_, fun j r' hj e => ?_⟩
        · have h1 : ks'.length ≤ ks.length + 1 := by
            have := length_putK kvs (Sum.inl (r.key : Int)) (.ref p)
            rw [hks'.len, hks.len] at this
            exact this
          omega
        · by_cases e : n = (r.key : Int)
          · refine ⟨r, p, List.mem_of_getElem? er, e, ?_, hp⟩
            rw [valV_put, if_pos (by rw [e])]
          · rcases (hm n).mp hn with q | q
            · obtain ⟨r2, p2, a1, a2, a3, a4⟩ := hk1 n q
              refine ⟨r2, p2, a1, a2, ?_, a4⟩
              rw [valV_put, if_neg (by intro z; cases z; exact e rfl)]
              exact a3
            · exact absurd q e
        · by_cases hji : j < i
          · exact (hm _).mpr (.inl (hk2 j r' hji e))
          · have : j = i := by omega
            subst this
            rw [er] at e
            cases e
            exact (hm _).mpr (.inr rfl)
    · rintro H' ⟨kvs, rfl, ks, hks, hkl, hk1, hk2⟩
      have hlen : kvs.length = ks.length := hks.len
      have hks1000 : ks.length ≤ 1000 := by omega
      have mem_ks : ∀ r ∈ rs, (r.key : Int) ∈ ks := fun r hr => by
        obtain ⟨j, hj, e⟩ := List.mem_iff_getElem.mp hr
        exact hk2 j r (by rw [hR.1]; exact hj) (by rw [List.getElem?_eq_getElem hj, e])
      refine ⟨D, .dK kvs, upd_same, trivial, fun od => ?_⟩
      rw [upd_upd]
      refine ⟨_, rfl, D, od, rfl, .inl ⟨kvs, upd_same, fun D2 hD2 => ?_⟩⟩
      have nD2 : D2 ≠ D := fun z => by rw [z, upd_same] at hD2; cases hD2
      have fD2 : H D2 = none := by rw [upd_ne nD2] at hD2; exact hD2
      refine lc_it walk_keys (fun i H' => H' = upd (upd H D (.frz od (.dK kvs))) D2 (.lst ((ks.take i).map V.int))) rfl (fun i H' _ e => by rw [e, upd_ne (Ne.symm nD2)]; exact upd_same) ?_ ?_
      · rintro i x H' H'' hi rfl ⟨rfl, kk, v, ekv, rfl⟩
        obtain ⟨n, en, rfl⟩ := hks.at_ ekv
        refine ⟨rfl, _, rfl, .inl ⟨n, rfl, _, upd_same, ?_, ?_⟩⟩
        · rw [List.length_map, List.length_take]
          exact small1000 (by omega)
        · rw [upd_upd]
          congr 2
          rw [List.take_add_one, en, List.map_append]
          rfl
      · rintro H' rfl
        refine ⟨by rw [upd_ne (Ne.symm nD2)]; exact upd_same, ?_⟩
        have hfull : ks.take kvs.length = ks := by rw [hlen]; exact List.take_length
        rw [hfull]
        refine ⟨D2, ks, rfl, .inl (.inl (by rw [upd_ne nD2]; exact upd_same)), fun ns' p3 hperm hsort hp3 => ?_⟩
        generalize hH3 : upd (upd (upd H D (.frz od (.dK kvs))) D2 (.lst (ks.map V.int))) D (.dK kvs) = H3 at hp3 ⊢
        have e3D : H3 D = some (.dK kvs) := by rw [← hH3]; exact upd_same
        have sm3 : Same H H3 := fun b o e => by
          have nb : b ≠ D := ne_of_none e hD
          have nb2 : b ≠ D2 := ne_of_none e fD2
          rw [← hH3, upd_ne nb, upd_ne nb2, upd_ne nb]
          exact e
        have n3D : p3 ≠ D := fun z => by rw [z, e3D] at hp3; cases hp3
        refine ⟨p3, rfl, ⟨_, .inl (.inl upd_same)⟩, fun D4 hD4 => ?_⟩
        have n43 : D4 ≠ p3 := fun z => by rw [z, upd_same] at hD4; cases hD4
        have f43 : H3 D4 = none := by rw [upd_ne n43] at hD4; exact hD4
        have n4D : D4 ≠ D := fun z => by rw [z, e3D] at f43; cases f43
        have hnl : ns'.length = ks.length := hperm.length_eq
        obtain ⟨qs, hql, hq⟩ := pick_rules (K := K) (H := H) (rs := rs) (kvs := kvs) (ns := ns') fun n hn => hk1 n (hperm.mem_iff.mp hn)
        refine lc_list (K := K) (a := p3) (xs := ns'.map V.int) (fun i H' => ∃ acc, H' = upd (upd H3 p3 (.lst (ns'.map V.int))) D4 (.lst acc) ∧ acc.length = i ∧ i ≤ ns'.length ∧ ∀ (j : Nat) (r : Rl), j < i → qs[j]? = some r → ∃ p, acc[j]? = some (.ref p) ∧ RuleAt K H p r)
          ⟨[], rfl, rfl, Nat.zero_le _, fun j r h => absurd h (Nat.not_lt_zero _)⟩ (fun i H' _ ⟨acc, e, _⟩ => by rw [e, ]; exact .inl (.inl (by rw [upd_ne (Ne.symm n43)]; exact upd_same))) ?_ ?_
        · rintro i x H' hx ⟨acc, rfl, hal, hi, hacc⟩
          rw [List.getElem?_map] at hx
          cases en : ns'[i]? with
          | none => rw [en] at hx; cases hx
          | some n =>
            rw [en] at hx
            cases hx
            obtain ⟨r, p, eq, _, _, ev, hp⟩ := hq i n en
            have hDD : (upd (upd H3 p3 (.lst (ns'.map V.int))) D4 (.lst acc)) D = some (.dK kvs) := by rw [upd_ne (Ne.symm n4D), upd_ne (Ne.symm n3D)]; exact e3D
            have g : DGet (upd (upd H3 p3 (.lst (ns'.map V.int))) D4 (.lst acc)) D (.int n) (some (.ref p)) := by
              rw [← ev]
              exact DGet.k (k := Sum.inl n) hDD
            have hil : i < ns'.length := (List.getElem?_eq_some_iff.mp en).1
            refine ⟨rfl, _, rfl, _, rfl, D, .ref p, rfl, g, acc, upd_same, by rw [hal]; exact small1000 (by omega), ?_⟩
            rw [upd_upd]
            refine ⟨_, rfl, by simp [hal], hil, fun j r' hj e => ?_⟩
            by_cases hji : j < i
            · obtain ⟨p', e1, e2⟩ := hacc j r' hji e
              exact ⟨p', by rw [List.getElem?_append_left (by omega)]; exact e1, e2⟩
            · have : j = i := by omega
              subst this
              rw [eq] at e
              cases e
              exact ⟨p, by rw [List.getElem?_append_right (by omega), hal, Nat.sub_self]; rfl, hp⟩
        · rintro H' ⟨acc, rfl, hal, hi, hacc⟩
          refine ⟨D4, acc, rfl, .inl ⟨.inl (.inl upd_same), fun l hl => ?_⟩⟩
          have nl4 : l ≠ D4 := fun z => by rw [z, upd_same] at hl; cases hl
          have nl3 : l ≠ p3 := fun z => by rw [z, upd_ne (Ne.symm n43), upd_same] at hl; cases hl
          have fl : H3 l = none := by rw [upd_ne nl4, upd_ne nl3] at hl; exact hl
          have sm4 : Same H (upd (upd (upd H3 p3 (.lst (ns'.map V.int))) D4 (.lst acc)) l (.tup acc)) := same_upd3 (same_upd3 (same_upd3 sm3 hp3) (by rw [upd_ne n43]; exact f43)) hl
          have hln : (ns'.map V.int).length = ns'.length := List.length_map ..
          rw [hln] at hal hacc
          refine k l _ acc qs sm4 (sm3.free fl) upd_same ⟨by rw [hal, hql], fun i r e => ?_⟩ ?_ (fun r hr => ?_) fun r hr => ?_
          · have hi : i < qs.length := (List.getElem?_eq_some_iff.mp e).1
            obtain ⟨p, e1, e2⟩ := hacc i r (by omega) e
            exact ⟨p, e1, e2.kp (GF.Same.kp sm4)⟩
          · rw [hql, hnl]
            have := hR.1
            omega
          · obtain ⟨j, hj, e⟩ := List.mem_iff_getElem.mp hr
            have hj' : j < ns'.length := by omega
            obtain ⟨r', p, e1, e2, _⟩ := hq j ns'[j] (List.getElem?_eq_getElem hj')
            rw [List.getElem?_eq_getElem hj, e] at e1
            cases e1
            exact e2
          · have hm := hperm.mem_iff.mpr (mem_ks r hr)
            obtain ⟨j, hj, e⟩ := List.mem_iff_getElem.mp hm
            obtain ⟨r', p, e1, e2, e3, _⟩ := hq j ns'[j] (List.getElem?_eq_getElem hj)
            refine ⟨r', List.mem_of_getElem? e1, ?_⟩
            rw [e] at e3
            omega
end
end RW
end

/-! ## F5 -/
section
set_option Elab.async false
set_option linter.all false
set_option maxRecDepth 100000
set_option maxHeartbeats 4000000
namespace RW
open PySem PySem.Spec PyProof.Rows L2
/-- all but what stands at p is kept -/
def SmX (p : Addr) (H H' : Hp) : Prop := ∀ b o, b ≠ p → H b = some o → H' b = some o
theorem SmX.refl (p : Addr) (H : Hp) : SmX p H H := fun _ _ _ e => e
theorem SmX.trans {p : Addr} {H H1 H2 : Hp} (a : SmX p H H1) (b : SmX p H1 H2) : SmX p H H2 := fun c o h e => b c o h (a c o h e)
theorem SmX.same {p : Addr} {H H1 : Hp} (a : Same H H1) : SmX p H H1 := fun c o _ e => a c o e
theorem SmX.put {p : Addr} {H : Hp} {o : HO} : SmX p H (upd H p o) := fun c u h e => by rw [upd_ne h]; exact e
theorem SmX.kp {p : Addr} {H H1 : Hp} {xs : List V} (a : SmX p H H1) (h : H p = some (.lst xs)) : GF.Kp H H1 := fun b o e q => a b o (fun z => by rw [z, h] at e; cases e; cases q) e
theorem SmX.toSame {p : Addr} {H H1 : Hp} (a : SmX p H H1) (h : H p = none) : Same H H1 := fun b o e => a b o (ne_of_none e h) e
theorem rFs_ne (r : Rl) : rFs r ≠ [] := by unfold rFs; split <;> simp
theorem RuleAt.ne {K : PySem.W.Frag} {H : Hp} {q p C dx : Addr} {r : Rl} (h : RuleAt K H q r) (hp : H p = some (.ins C dx [])) : q ≠ p := by
  rintro rfl
  obtain ⟨dx', e, _⟩ := h
  rw [hp] at e
  injection e with e
  injection e with _ _ e
  exact rFs_ne r e.symm
theorem RuleAt.smx {K : PySem.W.Frag} {H H' : Hp} {q p C dx : Addr} {r : Rl} (h : RuleAt K H q r) (hp : H p = some (.ins C dx [])) (k : SmX p H H') : RuleAt K H' q r := by
  have hn := h.ne hp
  obtain ⟨dx', e, o⟩ := h
  exact ⟨dx', k _ _ hn e, o⟩
theorem RulesAt.smx {K : PySem.W.Frag} {H H' : Hp} {p C dx : Addr} {us : List V} {rs : List Rl} (h : RulesAt K H us rs) (hp : H p = some (.ins C dx [])) (k : SmX p H H') : RulesAt K H' us rs :=
  ⟨h.1, fun i r e => let ⟨q, e1, e2⟩ := h.2 i r e; ⟨q, e1, e2.smx hp k⟩⟩
/-- a book's numbers -/
structure BkOk (rs : List Rl) (m st re : Nat) : Prop where
  ok : ∀ r ∈ rs, r.Ok
  m1 : 1 ≤ m
  m6 : m ∣ 6
  mo : ∀ r ∈ rs, r.mo ∣ m
  sts : ∀ r ∈ rs, r.start ≤ st
  st5 : st ≤ 5
  res : ∀ r ∈ rs, r.reach ≤ re
  re3 : re ≤ 3
def bFs (m st re : Nat) (t : Addr) : List (Str × V) := [("modulus", sN m), ("rules", .ref t), ("start", sN st), ("reach", sN re)]
/-- a book of the rules rs at p -/
def BookAt (K : PySem.W.Frag) (H : Hp) (p : Addr) (rs : List Rl) : Prop := ∃ (dx t : Addr) (us : List V) (qs : List Rl) (m st re : Nat), H p = some (.ins (kBook K) dx (bFs m st re t)) ∧ H t = some (.tup us) ∧ RulesAt K H us qs ∧ qs.length ≤ 2 ∧ (∀ r, r ∈ qs ↔ r ∈ rs) ∧ BkOk rs m st re
theorem BookAt.kp {K : PySem.W.Frag} {H H' : Hp} {p : Addr} {rs : List Rl} (h : BookAt K H p rs) (k : GF.Kp H H') : BookAt K H' p rs := by
  obtain ⟨dx, t, us, qs, m, st, re, h1, h2, h3, h4⟩ := h
  exact ⟨dx, t, us, qs, m, st, re, kpi k h1, kpt k h2, h3.kp k, h4⟩
theorem Rl.Ok.st5 {r : Rl} (o : r.Ok) : r.start ≤ 5 := by
  obtain ⟨a1, a2, a3, a4, a5, a6, a7⟩ := o
  unfold Rl.start
  split <;> omega
theorem Rl.Ok.re3 {r : Rl} (o : r.Ok) : r.reach ≤ 3 := by
  obtain ⟨a1, a2, a3, a4, a5, a6, a7⟩ := o
  unfold Rl.reach
  split <;> omega
section
variable {w : World} {K : PySem.W.Frag} {mg : Str → Option Value} {base : Heap}
/-- a def with a star parameter -/
theorem fd_star {x qual pv : Str} {st : Stmt} {f : Addr} {N ps : List Str} {k : Nat} {sp : Sp} (F : FD K x qual st [] f) (S : FnScope N (ps ++ [pv]) (defScope st))
    (hb : ∀ (dV kV doc pm : Value) (an : Option Addr) (cdv ct : Value) (us rest : List Value), dV = .none → us.length = ps.length → bindArgs (PySem.W.fnOf x qual (defArgs st) (defBody st) (defScope st) dV kV doc pm an cdv ct) ⟨us ++ rest, []⟩ = (newTuple rest >>= fun t => pure (ps.zip us ++ [(pv, t)])))
    (hbody : ∀ (cdv : Value) (A : Around) (outer : List Env) (s : Shared) (H : Hp) (vs : List V) (Q : VK) (E : XK), Room k (A.deeper (envOfC qual (defScope st) s.heap.objs.size f cdv)) → sp vs H Q E →
      ∃ t, PSs (cxOf CX0 PP w K mg base N qual (defScope st) f cdv A outer s H E).nox (defBody st) t ∧ t { nx := fun _ H' => Q .non H', rt := Q } (L2.start N vs) H) :
    F0 PP w K mg base (k + 1) f (fun vs H Q E => ∃ ws rest, vs = ws ++ rest ∧ ws.length = ps.length ∧ rest.length ≤ sizeLine ∧ ∀ p, H p = Option.none → sp (ws ++ [V.ref p]) (upd H p (.tup rest)) Q E) := by
  obtain ⟨fd, F⟩ := F
  obtain ⟨oc, od, dV, kV, doc, pm, an, cdv, ct, osl, rfl, lk, hcd, hD, hK⟩ := F.ex
  have e : dV = .none := by
    rcases hD with ⟨_, e⟩ | ⟨e, _⟩
    · exact e
    · exact absurd rfl e
  exact StX.fn_star lk hcd S (fun _ _ _ _ _ _ _ _ _ _ _ z => z) (fun us rest hl => hb dV kV doc pm an cdv ct us rest e hl) fun A outer s H vs Q E hr h => let ⟨t, h1, h2⟩ := hbody cdv A outer s H vs Q E hr h; ⟨t, h1.nox, h2⟩
/-! ### Book.__init__ -/
def spBook0 (K : PySem.W.Frag) : Sp := fun vs H Q _ => ∃ (p dx t : Addr) (us : List V) (rs : List Rl), vs = [.ref p, .ref t] ∧ H p = some (.ins (kBook K) dx []) ∧ H t = some (.tup us) ∧ RulesAt K H us rs ∧ rs.length ≤ 2 ∧ ∀ H', BookAt K H' p rs → SmX p H H' → Q .non H'
theorem c_max {X : Cx} (hc : X.calm = true) : CallR X (.builtin "max") (fun xs H Q => ∃ i j : Nat, xs = [sN i, sN j] ∧ Q (sN (max i j)) H) := by
  intro pins s σ H xs us Q I r h
  obtain ⟨i, j, e, q⟩ := h
  refine call_max2 hc pins s σ H xs us Q I r ⟨i, j, e, ?_⟩
  have : (if (j : Int) > (i : Int) then (j : Int) else (i : Int)) = ((max i j : Nat) : Int) := by
    split <;> omega
  rw [this]
  exact q
theorem tup_ne {H : Hp} {p C dx t : Addr} {fs : List (Str × V)} {us : List V} (hp : H p = some (.ins C dx fs)) (ht : H t = some (.tup us)) : t ≠ p := by
  rintro rfl
  rw [hp] at ht
  cases ht
theorem ok_book0 (T : Txt K mg) : F0 PP w K mg base 3 (a_Book_init K) (fun vs H Q E => ∃ ws rest, vs = ws ++ rest ∧ ws.length = 1 ∧ rest.length ≤ sizeLine ∧ ∀ p, H p = Option.none → spBook0 K (ws ++ [V.ref p]) (upd H p (.tup rest)) Q E) := by
  have S : FnScope ["self", "rules", "at", "rule"] (["self", "rules"] : List Str) (defScope s_Book_init) := ⟨rfl, rfl, rfl, by decide +kernel, rfl, by decide +kernel, by decide +kernel⟩
  refine fd_star (ps := ["self"]) T.f_Book_init S (fun dV kV doc pm an cdv ct us rest e hl => by subst e; exact StX.bind_star1 (p1 := "self") (pv := "rules") (B := fun us => bindArgs _ ⟨us, []⟩) (fun _ => rfl) (fun _ _ _ => rfl) us rest hl) (fun cdv A outer s H vs Q E hr h => ?_)
  obtain ⟨p, dx, t, us, rs, rfl, hp, ht, hR, hl2, k⟩ := h
  obtain ⟨tk, hk⟩ := T.k_MOST_RULES
  have nd := S.nd
  refine ⟨_, pss_cons (ps_for PassesOwn.never rfl (pi_enumT T.z_enumerate (pa_cons (pv 1) pa_nil)) (pg_tup rfl (pgs_cons (pg_name (i := 2) nd rfl (.inl rfl)) (pgs_cons (pg_name (i := 3) nd rfl (.inl rfl)) pgs_nil)))
      (pss_one (ps_if (pt_not (pt_val (c_isC (pv 3) T.z_isinstance T.g_Rule))) (pss_one ps_never) pss_nil)))
    (pss_cons (ps_fld (pv 0) (c_call (ok_common_modulus T) hr T.g_common_modulus T.f_common_modulus.kp (pa_cons (pv 1) pa_nil)) rfl)
    (pss_cons (ps_fld (pv 0) (c_call (ok_in_order T) hr T.g_in_order T.f_in_order.kp (pa_cons (pv 1) pa_nil)) rfl)
    (pss_cons (ps_if (pt_cmpR op_gt (pe_callB call_len_seq (by rfl) T.z_len PySem.boot_len (pa_cons (pe_fld (pv 0) rfl) pa_nil)) (pe_glob (v := .int 400) rfl hk ⟨_, rfl⟩) (nomark _)) (pss_one ps_never) pss_nil)
    (pss_cons (ps_fld (pv 0) pe_int rfl) (pss_cons (ps_fld (pv 0) pe_int rfl)
    (pss_one (ps_for PassesOwn.never rfl (pi_tup (pe_fld (pv 0) rfl)) (pg_name (i := 3) nd rfl (.inl rfl))
      (pss_cons (ps_fld (pv 0) (pe_callB (c_max rfl) (by rfl) T.z_max boot_max (pa_cons (pe_callTy call_int1 (by rfl) T.z_int boot_int (pa_cons (pe_fld (pv 0) rfl) pa_nil)) (pa_cons (pe_callTy call_int1 (by rfl) T.z_int boot_int (pa_cons (pe_fld (pv 3) rfl) pa_nil)) pa_nil))) rfl)
        (pss_one (ps_fld (pv 0) (pe_callB (c_max rfl) (by rfl) T.z_max boot_max (pa_cons (pe_callTy call_int1 (by rfl) T.z_int boot_int (pa_cons (pe_fld (pv 0) rfl) pa_nil)) (pa_cons (pe_callTy call_int1 (by rfl) T.z_int boot_int (pa_cons (pe_fld (pv 3) rfl) pa_nil)) pa_nil))) rfl)))))))))), ?_⟩
  refine ⟨_, rfl, t, us, rfl, ht, for_it walk_enumT (fun i σ H' => Same H H' ∧ ∃ v1 v2, σ = [some (.ref p), some (.ref t), v1, v2]) ⟨Same.refl H, none, none, rfl⟩ (fun i σ H' _ ⟨sm, _⟩ => sm _ _ ht) ?_ ?_⟩
  · rintro i x σ H' H'' hi ⟨sm, v1, v2, rfl⟩ ⟨T1, y1, y2, rfl, hT, rfl, e1, e2⟩
    cases e1
    obtain ⟨q, r, er, rfl, hq⟩ := hR.at_ e2
    have sm' : Same H (upd H' T1 (.tup [.int (i : Nat), .ref q])) := same_upd3 sm hT
    refine ⟨T1, _, rfl, .inl (.inl upd_same), rfl, _, _, rfl, _, _, rfl, rfl, ?_⟩
    obtain ⟨ty, h1, h2⟩ := rl_ty T (hq.kp (GF.Same.kp sm'))
    refine ⟨_, rfl, ty, true, .base h1, h2, _, rfl, ?_⟩
    exact iteF ⟨sm', _, _, rfl⟩
  · rintro σ H1 ⟨sm1, v1, v2, rfl⟩
    have hp1 := sm1 _ _ hp
    have ntp : t ≠ p := tup_ne hp ht
    refine ⟨_, rfl, t, us, rs, rfl, sm1 _ _ ht, hR.kp (GF.Same.kp sm1), fun m hm1 hm6 hmo => ?_⟩
    refine ⟨_, rfl, p, _, dx, _, rfl, hp1, T.c_Book, T.n_Book_modulus, by decide, ?_⟩
    have x1 : SmX p H (upd H1 p (.ins (kBook K) dx (putF "modulus" (sN m) []))) := (SmX.same sm1).trans SmX.put
    refine ⟨_, rfl, t, us, rs, rfl, x1 _ _ ntp ht, hR.smx hp x1, by have := hR.1; omega, fun q H2 ws qs sm2 fq hq hQ hql hm1' hm2' => ?_⟩
    have hp2 := sm2 _ _ (upd_same (H := H1) (a := p) (o := .ins (kBook K) dx (putF "modulus" (sN m) [])))
    have x2 : SmX p H H2 := x1.trans (SmX.same sm2)
    have nqp : q ≠ p := tup_ne hp2 hq
    refine ⟨_, rfl, p, _, dx, _, rfl, hp2, T.c_Book, T.n_Book_rules, pl (by decide), ?_⟩
    have eqm : ∀ r, r ∈ qs ↔ r ∈ rs := fun r => ⟨hm1' r, fun h => by
      obtain ⟨q', h1, h2⟩ := hm2' r h
      have o1 : r.Ok := by
        obtain ⟨j, hj, e⟩ := List.mem_iff_getElem.mp h
        obtain ⟨_, _, _, _, o⟩ := hR.2 j r (by rw [List.getElem?_eq_getElem hj, e])
        exact o
      have o2 : q'.Ok := by
        obtain ⟨j, hj, e⟩ := List.mem_iff_getElem.mp h1
        obtain ⟨_, _, _, _, o⟩ := hQ.2 j q' (by rw [List.getElem?_eq_getElem hj, e])
        exact o
      rw [← Rl.key_inj o1 o2 h2]
      exact h1⟩
    have okr : ∀ r ∈ rs, r.Ok := fun r h => by
      obtain ⟨j, hj, e⟩ := List.mem_iff_getElem.mp h
      obtain ⟨_, _, _, _, o⟩ := hR.2 j r (by rw [List.getElem?_eq_getElem hj, e])
      exact o
    refine ⟨_, rfl, p, _, dx, _, _, rfl, upd_same, T.c_Book, T.n_Book_rules, rfl, q, ws, rfl, .inr (.inl (.inl (by rw [upd_ne nqp]; exact hq))), _, _, rfl, rfl, _, rfl, ?_⟩
    have hwl : ws.length = qs.length := hQ.1
    refine ite2 (fun hgt => ?_) (fun _ => ?_)
    · exfalso
      have := of_decide_eq_true hgt
      omega
    refine ⟨_, rfl, p, _, dx, _, rfl, upd_same, T.c_Book, T.n_Book_start, pl (pl (by decide)), ?_⟩
    rw [upd_upd]
    refine ⟨_, rfl, p, _, dx, _, rfl, upd_same, T.c_Book, T.n_Book_reach, pl (pl (pl (by decide))), ?_⟩
    rw [upd_upd]
    refine ⟨_, rfl, p, _, dx, _, _, rfl, upd_same, T.c_Book, T.n_Book_rules, rfl, q, rfl, ⟨ws, .inl (.inl (by rw [upd_ne nqp]; exact hq))⟩, ?_⟩
    refine for_tup (K := K) (a := q) (xs := ws) (fun i σ H' => ∃ (a b : Nat) (v : Option V) (v1 : Option V), H' = upd H2 p (.ins (kBook K) dx (bFs m a b q)) ∧ σ = [some (.ref p), some (.ref t), v1, v] ∧ a ≤ 5 ∧ b ≤ 3 ∧ ∀ (j : Nat) (r : Rl), j < i → qs[j]? = some r → r.start ≤ a ∧ r.reach ≤ b)
      ⟨0, 0, _, _, rfl, rfl, by omega, by omega, fun j r h => absurd h (Nat.not_lt_zero _)⟩ (fun i σ H' _ ⟨a, b, _, _, e, _⟩ => by rw [e]; exact .inl (.inl (by rw [upd_ne nqp]; exact hq))) ?_ ?_
    · rintro i x σ H' hx ⟨a, b, v, v1, rfl, rfl, ha, hb, hj⟩
      obtain ⟨c, r, er, rfl, hc⟩ := hQ.at_ hx
      have o : r.Ok := let ⟨_, _, o⟩ := hc; o
      have ncp : c ≠ p := by
        rintro rfl
        obtain ⟨dx', e, _⟩ := hc
        rw [hp2] at e
        injection e with e
        injection e with _ _ e
        have := congrArg List.length e
        unfold rFs at this
        split at this <;> simp [putF] at this
      have hc1 : ∀ z, RuleAt K (upd H2 p z) c r := fun z => by
        obtain ⟨dx', e, o⟩ := hc
        exact ⟨dx', by rw [upd_ne ncp]; exact e, o⟩
      obtain ⟨C1, d1, f1, e1, c1, n1, l1⟩ := rl_st T (hc1 (.ins (kBook K) dx (bFs m a b q)))
      refine ⟨_, rfl, p, _, dx, _, _, rfl, upd_same, T.c_Book, T.n_Book_start, rfl, .inl ⟨_, rfl, ?_⟩⟩
      refine ⟨_, rfl, c, C1, d1, f1, _, rfl, e1, c1, n1, l1, .inl ⟨_, rfl, a, r.start, rfl, ?_⟩⟩
      refine ⟨_, rfl, p, _, dx, _, rfl, upd_same, T.c_Book, T.n_Book_start, by show 4 < 1000; decide, ?_⟩
      rw [upd_upd]
      obtain ⟨C2, d2, f2, e2, c2, n2, l2⟩ := rl_re T (hc1 (.ins (kBook K) dx (putF "start" (sN (max a r.start)) (bFs m a b q))))
      refine ⟨_, rfl, p, _, dx, _, _, rfl, upd_same, T.c_Book, T.n_Book_reach, rfl, .inl ⟨_, rfl, ?_⟩⟩
      refine ⟨_, rfl, c, C2, d2, f2, _, rfl, e2, c2, n2, l2, .inl ⟨_, rfl, b, r.reach, rfl, ?_⟩⟩
      refine ⟨_, rfl, p, _, dx, _, rfl, upd_same, T.c_Book, T.n_Book_reach, by show 4 < 1000; decide, ?_⟩
      rw [upd_upd]
      have s5 := o.st5
      have r3 := o.re3
      refine ⟨max a r.start, max b r.reach, _, _, rfl, rfl, by omega, by omega, fun j r' hj' e => ?_⟩
      by_cases hji : j < i
      · have := hj j r' hji e
        omega
      · have : j = i := by omega
        subst this
        rw [er] at e
        cases e
        omega
    · rintro σ H' ⟨a, b, v, v1, rfl, rfl, ha, hb, hj⟩
      have mem : ∀ r ∈ rs, r.start ≤ a ∧ r.reach ≤ b := fun r h => by
        obtain ⟨j, hj', e⟩ := List.mem_iff_getElem.mp ((eqm r).mpr h)
        exact hj j r (by omega) (by rw [List.getElem?_eq_getElem hj', e])
      have x3 : SmX p H (upd H2 p (.ins (kBook K) dx (bFs m a b q))) := x2.trans SmX.put
      refine k _ ⟨dx, q, ws, qs, m, a, b, upd_same, by rw [upd_ne nqp]; exact hq, ⟨hwl, fun i r e => ?_⟩, by omega, eqm, ⟨okr, hm1, hm6, hmo, fun r h => (mem r h).1, ha, fun r h => (mem r h).2, hb⟩⟩ x3
      obtain ⟨c, ec, hc⟩ := hQ.2 i r e
      have ncp : c ≠ p := by
        rintro rfl
        obtain ⟨dx', e, _⟩ := hc
        rw [hp2] at e
        injection e with e
        injection e with _ _ e
        have := congrArg List.length e
        unfold rFs at this
        split at this <;> simp [putF] at this
      obtain ⟨dx', e, o⟩ := hc
      exact ⟨c, ec, dx', by rw [upd_ne ncp]; exact e, o⟩
end
end RW
end

/-! ## F6 -/
section
set_option Elab.async false
set_option linter.all false
set_option maxRecDepth 100000
set_option maxHeartbeats 4000000
namespace RW
open PySem PySem.Spec PyProof.Rows L2
/-! ### what a book leaves -/
def leftsOf (rs : List Rl) (n : Nat) : List Nat := (List.range (n + 1)).filter fun l => rs.any fun r => r.st n && decide (r.lf n = l)
theorem lf_le {r : Rl} {n : Nat} (h : r.st n = true) (o : r.Ok) : r.lf n < n := by
  obtain ⟨a1, a2, a3, a4, a5, a6, a7⟩ := o
  unfold Rl.st Rl.start at h
  unfold Rl.lf
  cases hd : r.dn with
  | false =>
    have := a6 hd
    simp [hd] at h ⊢
    omega
  | true =>
    simp [hd] at h ⊢
    omega
theorem mem_lefts {rs : List Rl} {n l : Nat} (o : ∀ r ∈ rs, r.Ok) : l ∈ leftsOf rs n ↔ ∃ r ∈ rs, r.st n = true ∧ r.lf n = l := by
  unfold leftsOf
  rw [List.mem_filter, List.any_eq_true]
  constructor
  · rintro ⟨_, r, hr, h⟩
    rw [Bool.and_eq_true] at h
    exact ⟨r, hr, h.1, of_decide_eq_true h.2⟩
  · rintro ⟨r, hr, h1, h2⟩
    have := lf_le h1 (o r hr)
    refine ⟨List.mem_range.mpr (by omega), r, hr, ?_⟩
    rw [h1, decide_eq_true h2]
    rfl
theorem lefts_sorted (rs : List Rl) (n : Nat) : (leftsOf rs n).Pairwise (· < ·) := List.Pairwise.filter _ List.pairwise_lt_range
theorem lefts_len {rs : List Rl} {n : Nat} (o : ∀ r ∈ rs, r.Ok) : ∀ l ∈ leftsOf rs n, l < n := fun l h => by
  obtain ⟨r, hr, h1, h2⟩ := (mem_lefts o).mp h
  have := lf_le h1 (o r hr)
  omega
/-- what it takes, ascending -/
def takesOf (rs : List Rl) (n : Nat) : List Nat := (leftsOf rs n).reverse.map (n - ·)
section
variable {w : World} {K : PySem.W.Frag} {mg : Str → Option Value} {base : Heap}
theorem kit_lt {K : PySem.W.Frag} : PySem.W.kitAny K (.type "list") [.type "list", .type "tuple"] = some true := kitAny_cons (b := true) (kit_ty (by decide +kernel)) (fun z => nomatch z) fun _ => rfl
theorem book_make (T : Txt K mg) {H1 : Hp} {us : List V} {rs : List Rl} {Q : VK} (hR : RulesAt K H1 us rs) (hl : rs.length ≤ 2) (k : ∀ b H', Same H1 H' → H1 b = none → BookAt K H' b rs → Q (.ref b) H') :
    ∀ x dx, H1 x = none → H1 dx = none → dx ≠ x → (fun vs H Q (E : XK) => ∃ ws rest, vs = ws ++ rest ∧ ws.length = 1 ∧ rest.length ≤ sizeLine ∧ ∀ p, H p = Option.none → spBook0 K (ws ++ [V.ref p]) (upd H p (.tup rest)) Q E) (V.ref x :: us) (upd (upd H1 dx (.own x)) x (.ins (kBook K) dx [])) (fun v H2 => v = .non ∧ Q (.ref x) H2) E0 := by
  intro x dx hx hdx hne
  have hz : us.length ≤ 2 := by rw [hR.1]; exact hl
  refine ⟨[.ref x], us, rfl, rfl, Nat.le_trans hz (by decide), fun p hp => ?_⟩
  have nxp : x ≠ p := fun z => by rw [← z, upd_same] at hp; cases hp
  have sm : Same H1 (upd (upd (upd H1 dx (.own x)) x (.ins (kBook K) dx [])) p (.tup us)) := same_upd3 (same_upd3 (same_upd hdx) (by rw [upd_ne (Ne.symm hne)]; exact hx)) hp
  exact ⟨x, dx, p, us, rs, rfl, by rw [upd_ne nxp]; exact upd_same, upd_same, hR.kp (GF.Same.kp sm), hl, fun H' hb hs => ⟨rfl, k x H' (fun b o e => hs b o (ne_of_none e hx) (sm b o e)) hx hb⟩⟩
def spBookOf (K : PySem.W.Frag) : Sp := fun vs H Q _ => ∃ (l : Addr) (us : List V) (rs : List Rl), vs = [.ref (kBook K), .ref l] ∧ H l = some (.lst us) ∧ RulesAt K H us rs ∧ rs.length ≤ 2 ∧ ∀ b H', Same H H' → H b = none → BookAt K H' b rs → Q (.ref b) H'
theorem ok_book_of (T : Txt K mg) : F0 PP w K mg base 5 (a_Book_of K) (spBookOf K) := by
  have S : FnScope ["cls", "rules"] ["cls", "rules"] (defScope s_Book_of) := ⟨rfl, rfl, rfl, by decide +kernel, rfl, by decide +kernel, by decide +kernel⟩
  refine fd_ok T.f_Book_of S (fun vs H Q E h => ?_) (fun _ _ _ _ _ _ us hl => match us, hl with | [_, _], _ => rfl) (fun cdv A outer s H vs Q E hr h => ?_)
  · obtain ⟨l, us, rs, rfl, _⟩ := h; rfl
  · obtain ⟨l, us, rs, rfl, hl, hR, h2, k⟩ := h
    refine ⟨_, pss_cons (ps_if (pt_not (pt_val (pe_callB call_isiT (by rfl) T.z_isinstance boot_isinstance (pa_cons (pv 1) (pa_cons (pe_tup (pa_cons (pe_bltn (v := .ty "list") rfl T.z_list boot_list rfl) (pa_cons (pe_bltn (v := .ty "tuple") rfl T.z_tuple boot_tuple rfl) pa_nil))) pa_nil))))) (pss_one ps_never) pss_nil)
      (pss_one (ps_ret (c_makeVS T.mk_Book (ok_book0 T) hr (pv 0) (pv 1)))), ?_⟩
    refine ⟨_, rfl, by decide, fun p hp => ?_⟩
    have np : l ≠ p := ne_of_none hl hp
    refine ⟨.ref l, p, [.ty "list", .ty "tuple"], .type "list", [.type "list", .type "tuple"], true, rfl, upd_same, .cons (.ty _) (.cons (.ty _) .nil), .base (.lst (by rw [upd_ne np]; exact hl)), kit_lt, _, rfl, ?_⟩
    have sm := same_upd (o := .tup [.ty "list", .ty "tuple"]) hp
    refine iteF ⟨rfl, _, rfl, l, us, rfl, .inr (.inl (.inl (sm _ _ hl))), book_make T (hR.kp (GF.Same.kp sm)) h2 fun b H' s fb hb => k b H' (sm.trans s) (sm.free fb) hb⟩
/-! ### lefts, takes -/
def spLefts (K : PySem.W.Frag) : Sp := fun vs H Q _ => ∃ (b : Addr) (rs : List Rl) (n : Nat), vs = [.ref b, sN n] ∧ (n : Int) ≤ heapMax ∧ BookAt K H b rs ∧ ∀ p H', Same H H' → H p = none → H' p = some (.tup ((leftsOf rs n).map sN)) → Q (.ref p) H'
theorem ok_lefts (T : Txt K mg) : F0 PP w K mg base 6 (a_Book_lefts K) (spLefts K) := by
  have S : FnScope ["self", "n", "found", "rule", "left"] ["self", "n"] (defScope s_Book_lefts) := ⟨rfl, rfl, rfl, by decide +kernel, rfl, by decide +kernel, by decide +kernel⟩
  refine fd_ok T.f_Book_lefts S (fun vs H Q E h => ?_) (fun _ _ _ _ _ _ us hl => match us, hl with | [_, _], _ => rfl) (fun cdv A outer s H vs Q E hr h => ?_)
  · obtain ⟨b, rs, n, rfl, _⟩ := h; rfl
  · obtain ⟨b, rs, n, rfl, hn, hB, k⟩ := h
    obtain ⟨dx, t, us, qs, m, st, re, hb, ht, hR, hq2, hmem, ok⟩ := hB
    have nd := S.nd
    refine ⟨_, pss_cons (ps_expr (c_call (ok_need_heap T) (hr.mono (by decide)) T.g_need_heap T.f_need_heap.kp (pa_cons (pv 1) pa_nil)))
      (pss_cons (ps_setDc (i := 2) (own := [("rule", 3)]) (g := gName 3) rfl nd rfl rfl (sw_trueD rfl rfl rfl (by decide +kernel)) (pi_tup (pe_fld (pv 0) rfl)) (blkOk_by (own := [("rule", 3)]) (N := ["self", "n", "found", "rule", "left"]) (sc := defScope s_Book_lefts) (by decide +kernel)) (fun _ _ _ _ _ => pg_name (i := 3) nd rfl (Or.inl rfl))
          (fun _ _ _ _ _ => pts_one (pt_val (c_meth2 (pv 3) T.c_Fixed T.m_Fixed_stands_at (ok_Fixed_stands T) (hr.mono (by decide)) T.c_Down T.m_Down_stands_at (ok_Down_stands T) (hr.mono (by decide)) (pa_cons (pv 1) pa_nil))))
          (fun _ _ _ _ _ => c_meth2 (pv 3) T.c_Fixed T.m_Fixed_left_at (ok_Fixed_left T) hr T.c_Down T.m_Down_left_at (ok_Down_left T) hr (pa_cons (pv 1) pa_nil)) (fun _ _ _ _ _ => pe_bl))
      (pss_one (ps_ret (pe_callTy call_tuple_of (by rfl) T.z_tuple boot_tuple (pa_cons (pe_callB cr_sortedI (by rfl) T.z_sorted boot_sorted (pa_cons (pe_lock (pe_lc (own := [("left", 4)]) (g := gName 4) (tt := tYes) rfl nd (pi_keys (pv 2)) (blkOk_by (own := [("left", 4)]) (N := ["self", "n", "found", "rule", "left"]) (sc := defScope s_Book_lefts) (by decide +kernel)) (fun _ _ _ _ _ => pg_name (i := 4) nd rfl (Or.inl rfl)) (fun _ _ _ _ _ => pts_nil)
            (fun _ _ _ _ _ => pe_callTy call_int1 (by rfl) T.z_int boot_int (pa_cons (pv 4) pa_nil)))) pa_nil)) pa_nil))))), ?_⟩
    refine ⟨_, rfl, _, rfl, by omega, hn, ?_⟩
    refine ⟨_, rfl, b, _, dx, _, _, rfl, hb, T.c_Book, T.n_Book_rules, rfl, t, rfl, ⟨us, .inl (.inl ht)⟩, fun D hD => dc_tup (K := K) (a := t) (xs := us) (fun i H' => ∃ kvs ks, H' = upd H D (.dK kvs) ∧ keysN kvs ks ∧ ks.length ≤ i ∧ (∀ x, x ∈ ks ↔ ∃ (j : Nat) (r : Rl), j < i ∧ qs[j]? = some r ∧ r.st n = true ∧ x = (r.lf n : Int)))
      ⟨[], [], rfl, keysN.nil, Nat.le_refl _, fun x => ⟨fun h => by simp at h, fun ⟨j, r, h, _⟩ => absurd h (Nat.not_lt_zero _)⟩⟩ (fun i H' _ ⟨kvs, ks, e, _⟩ => by rw [e]; exact .inl (.inl (same_upd hD _ _ ht))) ?_ ?_⟩
    · rintro i x H' hx ⟨kvs, ks, rfl, hks, hkl, hmk⟩
      obtain ⟨p, r, er, rfl, hp⟩ := hR.at_ hx
      have hp' : RuleAt K (upd H D (.dK kvs)) p r := hp.kp (kp_upd_new hD)
      have hi : i < us.length := (List.getElem?_eq_some_iff.mp hx).1
      refine ⟨rfl, _, rfl, rd2 (sp := spStands K) hp' (fun b => by cases b <;> rfl) ⟨_, rfl, p, r, n, rfl, rfl, hn, hp', _, rfl, ?_⟩⟩
      refine ite2 (fun hs => ?_) (fun hs => ?_)
      · refine ⟨_, rfl, rd2 (sp := spLeft K) hp' (fun b => by cases b <;> rfl) ⟨_, rfl, p, r, n, rfl, rfl, hn, hs, hp', kvs, Sum.inl (r.lf n : Int), rfl, upd_same, ?_, ?_⟩⟩
        · rw [hks.len]
          exact small1000 (by have := hR.1; omega)
        · rw [upd_upd]
          obtain ⟨ks', hks', hm⟩ := hks.put (r.lf n : Int) (.bl true)
          refine ⟨_, ks', rfl, hks', ?_, fun x => ?_⟩
          · have := length_putK kvs (Sum.inl (r.lf n : Int)) (.bl true)
            rw [hks'.len, hks.len] at this
            omega
          · rw [hm, hmk]
            constructor
            · rintro (⟨j, r', h1, h2⟩ | rfl)
              · exact ⟨j, r', by omega, h2⟩
              · exact ⟨i, r, by omega, er, hs, rfl⟩
            · rintro ⟨j, r', h1, h2, h3⟩
              by_cases hji : j < i
              · exact .inl ⟨j, r', hji, h2, h3⟩
              · have : j = i := by omega
                subst this
                rw [er] at h2
                cases h2
                exact .inr h3.2
      · refine ⟨kvs, ks, rfl, hks, by omega, fun x => ?_⟩
        rw [hmk]
        constructor
        · rintro ⟨j, r', h1, h2⟩
          exact ⟨j, r', by omega, h2⟩
        · rintro ⟨j, r', h1, h2, h3⟩
          by_cases hji : j < i
          · exact ⟨j, r', hji, h2, h3⟩
          · have : j = i := by omega
            subst this
            rw [er] at h2
            cases h2
            exact absurd h3.1 hs
    · rintro H' ⟨kvs, ks, rfl, hks, hkl, hmk⟩
      have hlen : kvs.length = ks.length := hks.len
      have hks2 : ks.length ≤ 2 := by have := hR.1; omega
      refine ⟨D, .dK kvs, upd_same, trivial, fun od => ?_⟩
      rw [upd_upd]
      refine ⟨_, rfl, D, od, rfl, .inl ⟨kvs, upd_same, fun D2 hD2 => ?_⟩⟩
      have nD2 : D2 ≠ D := fun z => by rw [z, upd_same] at hD2; cases hD2
      have fD2 : H D2 = none := by rw [upd_ne nD2] at hD2; exact hD2
      refine lc_it walk_keys (fun i H' => H' = upd (upd H D (.frz od (.dK kvs))) D2 (.lst ((ks.take i).map V.int))) rfl (fun i H' _ e => by rw [e, upd_ne (Ne.symm nD2)]; exact upd_same) ?_ ?_
      · rintro i x H' H'' hi rfl ⟨rfl, kk, v, ekv, rfl⟩
        obtain ⟨z, en, rfl⟩ := hks.at_ ekv
        refine ⟨rfl, _, rfl, .inl ⟨z, rfl, _, upd_same, ?_, ?_⟩⟩
        · rw [List.length_map, List.length_take]
          exact small1000 (by omega)
        · rw [upd_upd]
          congr 2
          rw [List.take_add_one, en, List.map_append]
          rfl
      · rintro H' rfl
        refine ⟨by rw [upd_ne (Ne.symm nD2)]; exact upd_same, ?_⟩
        have hfull : ks.take kvs.length = ks := by rw [hlen]; exact List.take_length
        rw [hfull]
        refine ⟨D2, ks, rfl, .inl (.inl (by rw [upd_ne nD2]; exact upd_same)), fun ns' p3 hperm hsort hp3 => ?_⟩
        generalize hH3 : upd (upd (upd H D (.frz od (.dK kvs))) D2 (.lst (ks.map V.int))) D (.dK kvs) = H3 at hp3 ⊢
        have sm3 : Same H H3 := fun b o e => by
          have nb : b ≠ D := ne_of_none e hD
          have nb2 : b ≠ D2 := ne_of_none e fD2
          rw [← hH3, upd_ne nb, upd_ne nb2, upd_ne nb]
          exact e
        refine ⟨p3, _, rfl, .inl ⟨.inl (.inl upd_same), fun l hl => ?_⟩⟩
        have sm4 : Same H (upd (upd H3 p3 (.lst (ns'.map V.int))) l (.tup (ns'.map V.int))) := same_upd3 (same_upd3 sm3 hp3) hl
        have nl3 : l ≠ p3 := fun z => by rw [z, upd_same] at hl; cases hl
        refine k l _ sm4 (sm3.free (by rw [upd_ne nl3] at hl; exact hl)) ?_
        have e : ns' = (leftsOf rs n).map Int.ofNat := by
          refine sorted_ext (strict_of hsort (hperm.nodup_iff.mpr hks.2)) ?_ fun x => ?_
          · rw [List.pairwise_map]
            exact (lefts_sorted rs n).imp fun {a b} h => by simpa using h
          · rw [hperm.mem_iff, hmk, List.mem_map]
            constructor
            · rintro ⟨j, r, h1, h2, h3, rfl⟩
              exact ⟨r.lf n, (mem_lefts ok.ok).mpr ⟨r, (hmem r).mp (List.mem_of_getElem? h2), h3, rfl⟩, rfl⟩
            · rintro ⟨a, ha, rfl⟩
              obtain ⟨r, h1, h2, h3⟩ := (mem_lefts ok.ok).mp ha
              obtain ⟨j, hj, e⟩ := List.mem_iff_getElem.mp ((hmem r).mpr h1)
              exact ⟨j, r, by have := hR.1; omega, by rw [List.getElem?_eq_getElem hj, e], h2, by rw [h3]; rfl⟩
        rw [upd_same, e, List.map_map]
        rfl
end
end RW
end

/-! ## M1 -/
section
set_option Elab.async false
set_option linter.all false
set_option maxHeartbeats 4000000
/-! mathematics of the rows of worths -/
namespace RW
open PySem L2
theorem nodup_sub_len {α : Type} [DecidableEq α] : ∀ {l l' : List α}, l.Nodup → (∀ x ∈ l, x ∈ l') → l.length ≤ l'.length
  | [], _, _, _ => Nat.zero_le _
  | a :: l, l', nd, h => by
    have ha := h a List.mem_cons_self
    obtain ⟨n1, n2⟩ := List.nodup_cons.mp nd
    have ih := nodup_sub_len (l' := l'.erase a) n2 fun x hx => (List.mem_erase_of_ne (fun (e : x = a) => n1 (e ▸ hx))).mpr (h x (List.mem_cons_of_mem _ hx))
    rw [List.length_erase_of_mem ha] at ih
    have : 0 < l'.length := List.length_pos_of_mem ha
    rw [List.length_cons]
    omega
theorem pigeon {N : Nat} {f : Nat → Nat} (h : ∀ i, i ≤ N → f i < N) : ∃ i j, i < j ∧ j ≤ N ∧ f i = f j := by
  apply Classical.byContradiction
  intro hn
  have nd : ((List.range (N + 1)).map f).Nodup := by
    rw [List.Nodup, List.pairwise_map]
    refine (List.pairwise_lt_range).imp_of_mem fun {a b} ha hb hab e => hn ⟨a, b, hab, ?_, e⟩
    have := List.mem_range.mp hb
    omega
  have := nodup_sub_len (l' := List.range N) nd fun x hx => by
    obtain ⟨i, hi, rfl⟩ := List.mem_map.mp hx
    have := List.mem_range.mp hi
    exact List.mem_range.mpr (h i (by omega))
  simp at this
  omega
/-! ### the least number that is not in a list -/
def IsMex (l : List Nat) (m : Nat) : Prop := m ∉ l ∧ ∀ x, x < m → x ∈ l
def mexFrom (l : List Nat) : Nat → Nat → Nat
  | 0, x => x
  | f + 1, x => if x ∈ l then mexFrom l f (x + 1) else x
def mex (l : List Nat) : Nat := mexFrom l (l.length + 1) 0
theorem below_len {l : List Nat} {n : Nat} (h : ∀ x, x < n → x ∈ l) : n ≤ l.length := by
  have := nodup_sub_len (l := List.range n) (l' := l) List.nodup_range fun x hx => h x (List.mem_range.mp hx)
  simpa using this
theorem mexFrom_spec (l : List Nat) : ∀ (f x : Nat), (∀ y, y < x → y ∈ l) → l.length < x + f → IsMex l (mexFrom l f x)
  | 0, x, h, hz => by
    have := below_len h
    omega
  | f + 1, x, h, hz => by
    unfold mexFrom
    by_cases hx : x ∈ l
    · rw [if_pos hx]
      refine mexFrom_spec l f (x + 1) (fun y hy => ?_) (by omega)
      by_cases e : y = x
      · rw [e]; exact hx
      · exact h y (by omega)
    · rw [if_neg hx]
      exact ⟨hx, h⟩
theorem mex_spec (l : List Nat) : IsMex l (mex l) := mexFrom_spec l _ 0 (fun _ h => absurd h (Nat.not_lt_zero _)) (by omega)
theorem mex_unique {l : List Nat} {m n : Nat} (h : IsMex l m) (h' : IsMex l n) : m = n := by
  rcases Nat.lt_trichotomy m n with q | q | q
  · exact absurd (h'.2 m q) h.1
  · exact q
  · exact absurd (h.2 n q) h'.1
theorem mex_le (l : List Nat) : mex l ≤ l.length := below_len (mex_spec l).2
theorem mex_congr {l l' : List Nat} (h : ∀ x, x ∈ l ↔ x ∈ l') : mex l = mex l' :=
  mex_unique (mex_spec l) ⟨fun q => (mex_spec l').1 ((h _).mp q), fun x hx => (h x).mpr ((mex_spec l').2 x hx)⟩
/-! ### the row of worths -/
def rowG (rs : List Rl) : Nat → List Nat
  | 0 => []
  | n + 1 => rowG rs n ++ [mex ((leftsOf rs n).map fun l => (rowG rs n).getD l 0)]
def g (rs : List Rl) (n : Nat) : Nat := (rowG rs (n + 1)).getD n 0
theorem rowG_len (rs : List Rl) : ∀ n, (rowG rs n).length = n
  | 0 => rfl
  | n + 1 => by unfold rowG; rw [List.length_append, rowG_len rs n]; rfl
theorem rowG_get (rs : List Rl) : ∀ {k i : Nat}, i < k → (rowG rs k)[i]? = some (g rs i)
  | 0, i, h => absurd h (Nat.not_lt_zero _)
  | k + 1, i, h => by
    by_cases e : i = k
    · subst e
      unfold g
      rw [List.getD_eq_getElem?_getD]
      have : i < (rowG rs (i + 1)).length := by rw [rowG_len]; omega
      rw [List.getElem?_eq_getElem this]
      rfl
    · have hi : i < k := by omega
      have := rowG_get rs hi
      rw [← this]
      show (rowG rs k ++ [_])[i]? = _
      rw [List.getElem?_append_left (by rw [rowG_len]; exact hi)]
theorem rowG_eq (rs : List Rl) (k : Nat) : rowG rs k = (List.range k).map (g rs) := by
  apply List.ext_getElem?
  intro i
  by_cases h : i < k
  · rw [rowG_get rs h, List.getElem?_map, List.getElem?_range h]; rfl
  · rw [List.getElem?_eq_none (by rw [rowG_len]; omega), List.getElem?_eq_none (by simp; omega)]
theorem g_eq {rs : List Rl} (o : ∀ r ∈ rs, r.Ok) (n : Nat) : g rs n = mex ((leftsOf rs n).map (g rs)) := by
  have h := rowG_get rs (Nat.lt_succ_self n)
  have e : (rowG rs (n + 1))[n]? = some (mex ((leftsOf rs n).map fun l => (rowG rs n).getD l 0)) := by
    show (rowG rs n ++ [_])[n]? = _
    rw [List.getElem?_append_right (by rw [rowG_len]; exact Nat.le_refl _), rowG_len, Nat.sub_self]
    rfl
  rw [h] at e
  rw [Option.some.inj e]
  congr 1
  apply List.map_congr_left
  intro l hl
  rw [List.getD_eq_getElem?_getD, rowG_get rs (lefts_len o l hl)]
  rfl
/-! ### it comes again -/
/-- at most two rules -/
structure Few (rs : List Rl) : Prop where
  qs : ∃ qs : List Rl, qs.length ≤ 2 ∧ ∀ r, r ∈ qs ↔ r ∈ rs
theorem lefts_two {rs : List Rl} (o : ∀ r ∈ rs, r.Ok) (f : Few rs) (n : Nat) : (leftsOf rs n).length ≤ 2 := by
  obtain ⟨qs, hq, hm⟩ := f.qs
  have := nodup_sub_len (l := leftsOf rs n) (l' := qs.map fun r => r.lf n) ((lefts_sorted rs n).imp fun {a b} h => Nat.ne_of_lt h) fun x hx => by
    obtain ⟨r, hr, _, e⟩ := (mem_lefts o).mp hx
    exact List.mem_map.mpr ⟨r, (hm r).mpr hr, e⟩
  rw [List.length_map] at this
  omega
theorem g_two {rs : List Rl} (o : ∀ r ∈ rs, r.Ok) (f : Few rs) (n : Nat) : g rs n ≤ 2 := by
  rw [g_eq o]
  have := mex_le ((leftsOf rs n).map (g rs))
  rw [List.length_map] at this
  have := lefts_two o f n
  omega
/-- what the next worth hangs on -/
def stt (rs : List Rl) (m n : Nat) : Nat := (n % m) * 27 + g rs (n - 1) * 9 + g rs (n - 2) * 3 + g rs (n - 3)
theorem Rl.lf_fix {r : Rl} {n : Nat} (h : r.dn = false) : r.lf n = n - r.nu := by unfold Rl.lf; rw [h]; rfl
theorem Rl.lf_dn {r : Rl} {n : Nat} (h : r.dn = true) : r.lf n = r.nu := by unfold Rl.lf; rw [h]; rfl
/-- one step of the period -/
theorem g_step {rs : List Rl} {m st re k p : Nat} (B : BkOk rs m st re) (hk : st ≤ k) (hp : m ∣ p) (h : ∀ j, 1 ≤ j → j ≤ 3 → j ≤ k → g rs (k + p - j) = g rs (k - j)) : g rs (k + p) = g rs k := by
  rw [g_eq B.ok, g_eq B.ok]
  have key : ∀ r ∈ rs, r.st k = r.st (k + p) ∧ (r.st k = true → g rs (r.lf (k + p)) = g rs (r.lf k)) := fun r hr => by
    have o := B.ok r hr
    obtain ⟨a1, a2, a3, a4, a5, a6, a7⟩ := o
    have hs := B.sts r hr
    have hmo : r.mo ∣ p := Nat.dvd_trans (B.mo r hr) hp
    obtain ⟨q, hq⟩ := hmo
    have e1 : (k + p) % r.mo = k % r.mo := by rw [hq, Nat.add_mul_mod_self_left]
    refine ⟨?_, fun hst => ?_⟩
    · unfold Rl.st
      rw [e1]
      congr 1
      have h1 : r.start ≤ k := by omega
      have h2 : r.start ≤ k + p := by omega
      simp [h1, h2]
    · cases hd : r.dn with
      | true => rw [Rl.lf_dn hd, Rl.lf_dn hd]
      | false =>
        rw [Rl.lf_fix hd, Rl.lf_fix hd]
        have n1 := a6 hd
        have hle : r.nu ≤ k := by
          unfold Rl.start at hs
          rw [hd] at hs
          simp at hs
          omega
        exact h r.nu n1 a4 hle
  refine mex_congr fun x => ?_
  rw [List.mem_map, List.mem_map]
  constructor
  · rintro ⟨l, hl, rfl⟩
    obtain ⟨r, hr, h1, h2⟩ := (mem_lefts B.ok).mp hl
    obtain ⟨k1, k2⟩ := key r hr
    rw [← k1] at h1
    exact ⟨r.lf k, (mem_lefts B.ok).mpr ⟨r, hr, h1, rfl⟩, by rw [← k2 h1, h2]⟩
  · rintro ⟨l, hl, rfl⟩
    obtain ⟨r, hr, h1, h2⟩ := (mem_lefts B.ok).mp hl
    obtain ⟨k1, k2⟩ := key r hr
    refine ⟨r.lf (k + p), (mem_lefts B.ok).mpr ⟨r, hr, by rw [← k1]; exact h1, rfl⟩, by rw [k2 h1, h2]⟩
theorem period {rs : List Rl} {m st re : Nat} (B : BkOk rs m st re) (f : Few rs) : ∃ n p, 1 ≤ p ∧ n + p ≤ 170 ∧ ∀ k, n ≤ k → g rs (k + p) = g rs k := by
  have hm6 : m ≤ 6 := Nat.le_of_dvd (by decide) B.m6
  have hm1 := B.m1
  have hst := B.st5
  obtain ⟨i, j, hij, hj, e⟩ := pigeon (N := 162) (f := fun i => stt rs m (st + 3 + i)) fun i _ => by
    have h1 : (st + 3 + i) % m < 6 := Nat.lt_of_lt_of_le (Nat.mod_lt _ (by omega)) hm6
    have h2 := g_two B.ok f (st + 3 + i - 1)
    have h3 := g_two B.ok f (st + 3 + i - 2)
    have h4 := g_two B.ok f (st + 3 + i - 3)
    show stt rs m (st + 3 + i) < 162
    unfold stt
    omega
  have e : stt rs m (st + 3 + i) = stt rs m (st + 3 + j) := e
  unfold stt at e
  have a1 := g_two B.ok f (st + 3 + i - 1)
  have a2 := g_two B.ok f (st + 3 + i - 2)
  have a3 := g_two B.ok f (st + 3 + i - 3)
  have b1 := g_two B.ok f (st + 3 + j - 1)
  have b2 := g_two B.ok f (st + 3 + j - 2)
  have b3 := g_two B.ok f (st + 3 + j - 3)
  have hmod : (st + 3 + i) % m = (st + 3 + j) % m := by omega
  have c1 : g rs (st + 3 + i - 1) = g rs (st + 3 + j - 1) := by omega
  have c2 : g rs (st + 3 + i - 2) = g rs (st + 3 + j - 2) := by omega
  have c3 : g rs (st + 3 + i - 3) = g rs (st + 3 + j - 3) := by omega
  have hdv : m ∣ j - i := by
    have h := Nat.sub_mod_eq_zero_of_mod_eq hmod.symm
    have e2 : st + 3 + j - (st + 3 + i) = j - i := by omega
    rw [e2] at h
    exact Nat.dvd_of_mod_eq_zero h
  refine ⟨st + 3 + i, j - i, by omega, by omega, ?_⟩
  -- three behind, then on
  have main : ∀ k, st + i ≤ k → g rs (k + (j - i)) = g rs k := by
    intro k
    induction k using Nat.strongRecOn with
    | ind k ih =>
      intro hk
      by_cases h0 : k = st + 3 + i - 3
      · subst h0
        have e2 : st + 3 + i - 3 + (j - i) = st + 3 + j - 3 := by omega
        rw [e2]; exact c3.symm
      · by_cases h1 : k = st + 3 + i - 2
        · subst h1
          have e2 : st + 3 + i - 2 + (j - i) = st + 3 + j - 2 := by omega
          rw [e2]; exact c2.symm
        · by_cases h2 : k = st + 3 + i - 1
          · subst h2
            have e2 : st + 3 + i - 1 + (j - i) = st + 3 + j - 1 := by omega
            rw [e2]; exact c1.symm
          · refine g_step B (by omega) hdv fun q q1 q3 qk => ?_
            have e2 : k + (j - i) - q = (k - q) + (j - i) := by omega
            rw [e2]
            exact ih (k - q) (by omega) (by omega)
  exact fun k hk => main k (by omega)
/-! ### from where a row comes again -/
def bgn (f : Nat → Nat) (p : Nat) : Nat → Nat
  | 0 => 0
  | k + 1 => if f k = f (k + p) then bgn f p k else k + 1
theorem bgn_le (f : Nat → Nat) (p : Nat) : ∀ c, bgn f p c ≤ c
  | 0 => Nat.le_refl _
  | c + 1 => by
    unfold bgn
    split
    · exact Nat.le_trans (bgn_le f p c) (Nat.le_succ _)
    · exact Nat.le_refl _
theorem bgn_spec (f : Nat → Nat) (p : Nat) : ∀ c k, bgn f p c ≤ k → k < c → f k = f (k + p)
  | 0, k, _, h => absurd h (Nat.not_lt_zero _)
  | c + 1, k, h1, h2 => by
    unfold bgn at h1
    split at h1
    · rename_i e
      by_cases q : k = c
      · rw [q]; exact e
      · exact bgn_spec f p c k h1 (by omega)
    · omega
theorem bgn_small (f : Nat → Nat) (p a : Nat) : ∀ c, a ≤ c → (∀ k, a ≤ k → k < c → f k = f (k + p)) → bgn f p c ≤ a
  | 0, h, _ => by simpa [bgn] using h
  | c + 1, h, hk => by
    by_cases q : a = c + 1
    · rw [q]; exact bgn_le f p _
    · unfold bgn
      rw [if_pos (hk c (by omega) (by omega))]
      exact bgn_small f p a c (by omega) fun k h1 h2 => hk k h1 (by omega)
/-! ### tables as functions -/
def cyc (ag : List Nat) (n : Nat) : Nat := ag.getD (n % ag.length) 0
def tabf (ah ag : List Nat) (n : Nat) : Nat := if n < ah.length then ah.getD n 0 else cyc ag (n - ah.length)
theorem cyc_take {ag : List Nat} {s : Nat} (h1 : 1 ≤ s) (hd : s ∣ ag.length) (hs : s ≤ ag.length) (e : ag = (List.replicate (ag.length / s) (ag.take s)).flatten) (n : Nat) : cyc (ag.take s) n = cyc ag n := by
  have hl : (ag.take s).length = s := by rw [List.length_take]; omega
  have rep : ∀ (c : Nat) (t : List Nat) (i : Nat), 0 < t.length → i < c * t.length → (List.replicate c t).flatten[i]? = t[i % t.length]? := by
    intro c
    induction c with
    | zero => intro t i _ h; rw [Nat.zero_mul] at h; exact absurd h (Nat.not_lt_zero _)
    | succ c ih =>
      intro t i ht h
      rw [List.replicate_succ, List.flatten_cons]
      by_cases q : i < t.length
      · rw [List.getElem?_append_left q, Nat.mod_eq_of_lt q]
      · rw [List.getElem?_append_right (by omega), ih t (i - t.length) ht (by rw [Nat.succ_mul] at h; omega)]
        rw [← Nat.mod_eq_sub_mod (by omega)]
  have hpos : 0 < ag.length := by omega
  unfold cyc
  rw [hl]
  have hi : n % ag.length < ag.length := Nat.mod_lt _ hpos
  have e2 : ag[n % ag.length]? = (ag.take s)[n % ag.length % s]? := by
    have := rep (ag.length / s) (ag.take s) (n % ag.length) (by omega) (by rw [hl, Nat.div_mul_cancel hd]; exact hi)
    rw [hl] at this
    rw [← this, ← e]
  rw [List.getD_eq_getElem?_getD, List.getD_eq_getElem?_getD, e2, Nat.mod_mod_of_dvd n hd]
theorem cyc_rot {ag : List Nat} {x : Nat} {t : List Nat} (e : ag = t ++ [x]) (n : Nat) : cyc (x :: t) (n + 1) = cyc ag n := by
  subst e
  unfold cyc
  have hl : (x :: t).length = (t ++ [x]).length := by simp
  rw [hl]
  have hlen : (t ++ [x]).length = t.length + 1 := by simp
  rw [hlen]
  have hlt : n % (t.length + 1) < t.length + 1 := Nat.mod_lt _ (by omega)
  by_cases h : n % (t.length + 1) = t.length
  · have e1 : (n + 1) % (t.length + 1) = 0 := by
      rw [Nat.add_mod, h]
      by_cases h0 : t.length = 0
      · rw [h0]
      · rw [Nat.mod_eq_of_lt (by omega : 1 < t.length + 1), Nat.mod_self]
    rw [e1, h, List.getD_eq_getElem?_getD, List.getD_eq_getElem?_getD]
    simp
  · have e1 : (n + 1) % (t.length + 1) = n % (t.length + 1) + 1 := by
      rw [Nat.add_mod]
      have : 1 % (t.length + 1) = 1 := Nat.mod_eq_of_lt (by omega)
      rw [this, Nat.mod_eq_of_lt (by omega)]
    rw [e1, List.getD_eq_getElem?_getD, List.getD_eq_getElem?_getD, List.getElem?_cons_succ, List.getElem?_append_left (by omega)]
theorem tab_rot {ah : List Nat} {ag t : List Nat} {x c : Nat} (e : ag = t ++ [x]) (hc : c < ah.length) (hx : ah[c]? = some x) (n : Nat) : tabf (ah.take c) (x :: t) n = tabf (ah.take (c + 1)) ag n := by
  have l1 : (ah.take c).length = c := by rw [List.length_take]; omega
  have l2 : (ah.take (c + 1)).length = c + 1 := by rw [List.length_take]; omega
  unfold tabf
  rw [l1, l2]
  by_cases h1 : n < c
  · rw [if_pos h1, if_pos (by omega), List.getD_eq_getElem?_getD, List.getD_eq_getElem?_getD, List.getElem?_take_of_lt h1, List.getElem?_take_of_lt (by omega)]
  · by_cases h2 : n = c
    · subst h2
      rw [if_neg (by omega), if_pos (by omega), Nat.sub_self, List.getD_eq_getElem?_getD, List.getElem?_take_of_lt (by omega), hx]
      unfold cyc
      simp
    · rw [if_neg h1, if_neg (by omega)]
      have e2 : n - c = (n - (c + 1)) + 1 := by omega
      rw [e2]
      exact cyc_rot e _
theorem tab_congr {ah ag ag' : List Nat} (h : ∀ n, cyc ag' n = cyc ag n) (n : Nat) : tabf ah ag' n = tabf ah ag n := by
  unfold tabf
  split
  · rfl
  · exact h _
/-- a row that comes again from b on by p, told by its first b + p -/
theorem tab_row {f : Nat → Nat} {b p L : Nat} (hp : 1 ≤ p) (hb : b + p ≤ L) (h : ∀ k, b ≤ k → k < L - p → f k = f (k + p)) {n : Nat} (hn : n < L) : tabf (((List.range (b + p)).map f).take b) (((List.range (b + p)).map f).drop b) n = f n := by
  have l0 : ((List.range (b + p)).map f).length = b + p := by simp
  have l1 : (((List.range (b + p)).map f).take b).length = b := by rw [List.length_take, l0]; omega
  have l2 : (((List.range (b + p)).map f).drop b).length = p := by rw [List.length_drop, l0]; omega
  have gt : ∀ i, i < b + p → ((List.range (b + p)).map f)[i]? = some (f i) := fun i hi => by rw [List.getElem?_map, List.getElem?_range hi]; rfl
  unfold tabf
  rw [l1]
  by_cases hb' : n < b
  · rw [if_pos hb', List.getD_eq_getElem?_getD, List.getElem?_take_of_lt hb', gt n (by omega)]
    rfl
  · rw [if_neg hb']
    unfold cyc
    rw [l2, List.getD_eq_getElem?_getD, List.getElem?_drop, gt _ (by have := Nat.mod_lt (n - b) (by omega : 0 < p); omega)]
    show f (b + (n - b) % p) = f n
    have back : ∀ q r, b + r + q * p < L → f (b + r) = f (b + r + q * p) := by
      intro q
      induction q with
      | zero => intro r _; rw [Nat.zero_mul, Nat.add_zero]
      | succ q ih =>
        intro r hl
        have e1 : (q + 1) * p = q * p + p := Nat.succ_mul q p
        rw [e1] at hl ⊢
        rw [ih r (by omega), h (b + r + q * p) (by omega) (by omega), Nat.add_assoc]
    have hd := Nat.div_add_mod (n - b) p
    have e3 : b + (n - b) % p + (n - b) / p * p = n := by
      rw [Nat.mul_comm] at hd
      omega
    have := back ((n - b) / p) ((n - b) % p) (by omega)
    rw [e3] at this
    exact this
end RW
end

/-! ## F7 -/
section
set_option Elab.async false
set_option linter.all false
set_option maxRecDepth 100000
set_option maxHeartbeats 4000000
namespace RW
open PySem PySem.Spec PyProof.Rows L2
/-! ### set(ints), k in it -/
theorem cr_setI {X : Cx} (hc : X.calm = true) : CallR X (.type "set") (fun xs H Q => ∃ (a : Addr) (ns : List Int), xs = [.ref a] ∧ SqL X.K H a (ns.map V.int) ∧ ns.length ≤ 1000 ∧ ∀ (p : Addr) (S : Int → Bool) (n : Nat), H p = none → (∀ k, S k = true ↔ k ∈ ns) → Q (.ref p) (upd H p (.set S n))) := by
  intro pins s σ H xs us Q I r h
  obtain ⟨a, ns, ex, hq, hz, q⟩ := h
  subst ex
  obtain ⟨u, rfl, rx⟩ := vals1 r
  cases rx
  obtain ⟨its, r', pl, hzz⟩ := I.list hq
  have hl : its.toArray.size = ns.length := by rw [List.size_toArray, ← r'.length, List.length_map]
  have hi : IntsAre its.toArray.toList ns := by simpa using intsAre_of r'
  refine call_set_list (I.ok.hd hc) pl.isList hi (by rw [hl]; exact Nat.lt_of_le_of_lt (Nat.add_le_add_right hz 1) (by decide)) fun h' tk hS hk => ?_
  refine ⟨.ref _, _, I.laid (t' := tk) (o := .set _ _) (fun b o e => hk b o (Heap.lt_size e) e) (Nat.le_refl _) hS, rfl, q _ _ _ (I.hok.fresh (Nat.le_refl _)) fun k => ?_⟩
  rw [firstMet_any, hl, List.any_map, List.any_eq_true]
  constructor
  · rintro ⟨i, hi, e⟩
    have hi := List.mem_range.mp hi
    have e : (ns.getD i 0 == k) = true := e
    rw [List.getD_eq_getElem?_getD, List.getElem?_eq_getElem hi] at e
    have e : ns[i] = k := beq_iff_eq.mp e
    rw [← e]
    exact List.getElem_mem hi
  · intro hm
    obtain ⟨i, hi, e⟩ := List.mem_iff_getElem.mp hm
    refine ⟨i, List.mem_range.mpr hi, ?_⟩
    show (ns.getD i 0 == k) = true
    rw [List.getD_eq_getElem?_getD, List.getElem?_eq_getElem hi]
    exact beq_iff_eq.mpr e
theorem op_inI {X : Cx} : OpR X (compareOp .In) (fun x y H Q => ∃ (k : Int) (a : Addr) (S : Int → Bool) (n : Nat), x = .int k ∧ y = .ref a ∧ H a = some (.set S n) ∧ Q (.bl (S k)) H) := by
  intro pins s σ H x y v u Q I rx ry h
  obtain ⟨k, a, S, n, rfl, rfl, ha, q⟩ := h
  obtain ⟨tk, rfl⟩ := rx
  cases ry
  exact wpAny_inSet_of (intKind_is _ _ _ _) rfl (show s.heap.SetOf (intKind X.prog X.w) a S n from I.hok a _ ha) ⟨.bl (S k), H, I.tok _, rfl, q⟩
theorem sN_map (l : List Nat) : l.map sN = (l.map Int.ofNat).map V.int := by rw [List.map_map]; rfl
section
variable {w : World} {K : PySem.W.Frag} {mg : Str → Option Value} {base : Heap}
/-! ### takes -/
def spTakes (K : PySem.W.Frag) : Sp := fun vs H Q _ => ∃ (b : Addr) (rs : List Rl) (n : Nat), vs = [.ref b, sN n] ∧ (n : Int) ≤ heapMax ∧ n ≤ 1000 ∧ BookAt K H b rs ∧ ∀ p H', Same H H' → H p = none → H' p = some (.tup ((takesOf rs n).map sN)) → Q (.ref p) H'
theorem BookAt.ok {H : Hp} {b : Addr} {rs : List Rl} (h : BookAt K H b rs) : ∀ r ∈ rs, r.Ok := by
  obtain ⟨dx, t, us, qs, m, st, re, _, _, _, _, _, o⟩ := h
  exact o.ok
theorem BookAt.few {H : Hp} {b : Addr} {rs : List Rl} (h : BookAt K H b rs) : Few rs := by
  obtain ⟨dx, t, us, qs, m, st, re, _, _, _, h1, h2, _⟩ := h
  exact ⟨qs, h1, h2⟩
theorem ok_takes (T : Txt K mg) : F0 PP w K mg base 7 (a_Book_takes K) (spTakes K) := by
  have S : FnScope ["self", "n", "left"] ["self", "n"] (defScope s_Book_takes) := ⟨rfl, rfl, rfl, by decide +kernel, rfl, by decide +kernel, by decide +kernel⟩
  refine fd_ok T.f_Book_takes S (fun vs H Q E h => ?_) (fun _ _ _ _ _ _ us hl => match us, hl with | [_, _], _ => rfl) (fun cdv A outer s H vs Q E hr h => ?_)
  · obtain ⟨b, rs, n, rfl, _⟩ := h; rfl
  · obtain ⟨b, rs, n, rfl, hn, hn2, hB, k⟩ := h
    have nd := S.nd
    have hok := hB.ok
    obtain ⟨dx, t, us, qs, m, st, re, hb, hrest⟩ := id hB
    refine ⟨_, pss_one (ps_ret (pe_callTy call_tuple_of (by rfl) T.z_tuple boot_tuple (pa_cons (pe_lc (own := [("left", 2)]) (g := gName 2) (tt := tYes) rfl nd (pi_tup (pe_revT (c_meth (pv 0) T.c_Book T.m_Book_lefts (ok_lefts T) hr (pa_cons (pv 1) pa_nil))))
      (blkOk_by (own := [("left", 2)]) (N := ["self", "n", "left"]) (sc := defScope s_Book_takes) (by decide +kernel)) (fun _ _ _ _ _ => pg_name (i := 2) nd rfl (Or.inl rfl)) (fun _ _ _ _ _ => pts_nil) (fun _ _ _ _ _ => pe_op op_sub (pv 1) (pv 2))) pa_nil))), ?_⟩
    refine ⟨_, rfl, b, dx, _, rfl, hb, rfl, _, rfl, b, rs, n, rfl, hn, hB, fun p H1 sm fp hp => ⟨p, _, rfl, hp, fun q hq => ?_⟩⟩
    have nqp : q ≠ p := (ne_of_none hp hq).symm
    refine ⟨q, rfl, ⟨_, .inl (.inl upd_same)⟩, fun D hD => ?_⟩
    have nDq : D ≠ q := fun z => by rw [z, upd_same] at hD; cases hD
    have hlen : ((leftsOf rs n).map sN).reverse.length = (leftsOf rs n).length := by simp
    refine lc_tup (K := K) (a := q) (xs := ((leftsOf rs n).map sN).reverse) (fun i H' => H' = upd (upd H1 q (.tup ((leftsOf rs n).map sN).reverse)) D (.lst (((takesOf rs n).take i).map sN))) rfl
      (fun i H' _ e => by rw [e]; exact .inl (.inl (by rw [upd_ne (Ne.symm nDq)]; exact upd_same))) ?_ ?_
    · rintro i x H' hx rfl
      rw [← List.map_reverse, List.getElem?_map] at hx
      cases el : (leftsOf rs n).reverse[i]? with
      | none => rw [el] at hx; cases hx
      | some l =>
        rw [el] at hx
        cases hx
        have hl : l ∈ leftsOf rs n := List.mem_reverse.mp (List.mem_of_getElem? el)
        have hln := lefts_len hok l hl
        refine ⟨rfl, _, rfl, _, rfl, _, _, rfl, rfl, _, upd_same, ?_, ?_⟩
        · rw [List.length_map, List.length_take]
          have : (takesOf rs n).length ≤ 2 := by
            unfold takesOf
            rw [List.length_map, List.length_reverse]
            exact lefts_two hok hB.few n
          exact small1000 (by omega)
        · rw [upd_upd]
          congr 2
          have et : (takesOf rs n)[i]? = some (n - l) := by
            unfold takesOf
            rw [List.getElem?_map, el]
            rfl
          rw [List.take_add_one, et, List.map_append]
          congr 1
          show [V.int ((n : Int) - (l : Int))] = [sN (n - l)]
          unfold sN
          congr 2
          omega
    · rintro H' rfl
      refine ⟨D, _, rfl, .inl ⟨.inl (.inl upd_same), fun l hl => ?_⟩⟩
      have nlD : l ≠ D := fun z => by rw [z, upd_same] at hl; cases hl
      have e : (takesOf rs n).take ((leftsOf rs n).map sN).reverse.length = takesOf rs n := by
        rw [hlen]
        apply List.take_of_length_le
        unfold takesOf
        rw [List.length_map, List.length_reverse]
        exact Nat.le_refl _
      rw [e] at hl ⊢
      have smA : Same H1 (upd H1 q (.tup ((leftsOf rs n).map sN).reverse)) := same_upd hq
      have fD : (upd H1 q (.tup ((leftsOf rs n).map sN).reverse)) D = none := hD
      have sm2 : Same H (upd (upd (upd H1 q (.tup ((leftsOf rs n).map sN).reverse)) D (.lst ((takesOf rs n).map sN))) l (.tup ((takesOf rs n).map sN))) := same_upd3 (same_upd3 (sm.trans smA) fD) hl
      exact k l _ sm2 ((same_upd3 (sm.trans smA) fD).free hl) upd_same
/-! ### least_missing -/
def spLM (K : PySem.W.Frag) : Sp := fun vs H Q _ => ∃ (a : Addr) (ns : List Nat), vs = [.ref a] ∧ H a = some (.lst (ns.map sN)) ∧ ns.length ≤ 1000 ∧ ∀ H', Same H H' → Q (sN (mex ns)) H'
theorem ok_least_missing (T : Txt K mg) : F0 PP w K mg base 1 (a_least_missing K) (spLM K) := by
  have S : FnScope ["some", "known", "found"] ["some"] (defScope s_least_missing) := ⟨rfl, rfl, rfl, by decide +kernel, rfl, by decide +kernel, by decide +kernel⟩
  refine fd_ok T.f_least_missing S (fun vs H Q E h => ?_) (fun _ _ _ _ _ _ us hl => match us, hl with | [_], _ => rfl) (fun cdv A outer s H vs Q E hr h => ?_)
  · obtain ⟨a, ns, rfl, _⟩ := h; rfl
  · obtain ⟨a, ns, rfl, ha, hz, k⟩ := h
    refine ⟨_, pss_cons (ps_set (i := 1) S.nd rfl (.inl rfl) (pe_callTy (cr_setI rfl) (by rfl) T.z_set boot_set (pa_cons (pv 0) pa_nil))) (pss_cons (ps_set (i := 2) S.nd rfl (.inl rfl) pe_int)
      (pss_cons (ps_while PassesOwn.never (pt_m (pt_cmpR op_inI (pv 2) (pv 1) (by rfl))) (pss_one (ps_aug (i := 2) S.nd rfl (.inl rfl) pe_int ip_add))) (pss_one (ps_ret (pv 2))))), ?_⟩
    refine ⟨_, rfl, a, ns.map Int.ofNat, rfl, .inl (.inl (by rw [← sN_map]; exact ha)), by rw [List.length_map]; exact hz, fun p S' n fp hS => ?_⟩
    have mem : ∀ x : Nat, S' (x : Int) = true ↔ x ∈ ns := fun x => by
      rw [hS, List.mem_map]
      constructor
      · rintro ⟨y, hy, e⟩
        have e : (y : Int) = (x : Int) := e
        have : y = x := by omega
        rw [← this]; exact hy
      · exact fun h => ⟨x, h, rfl⟩
    refine while_m (fun σ' H' => ∃ x : Nat, σ' = [some (.ref a), some (.ref p), some (sN x)] ∧ (∀ y, y < x → y ∈ ns) ∧ H' = upd H p (.set S' n)) (fun σ' _ => match σ' with | [_, _, some (.int z)] => (ns.length + 1) - z.toNat | _ => 0) ⟨0, rfl, fun y h => absurd h (Nat.not_lt_zero _), rfl⟩ ?_
    rintro σ' H' ⟨x, rfl, hx, rfl⟩
    refine ⟨_, rfl, _, rfl, _, p, S', n, rfl, rfl, upd_same, _, rfl, ?_⟩
    have hle := below_len hx
    refine ite2 (fun hin => ?_) (fun hno => ?_)
    · have hin := (mem x).mp hin
      refine ⟨_, rfl, _, _, rfl, rfl, ⟨x + 1, rfl, fun y hy => ?_, rfl⟩, ?_⟩
      · by_cases e : y = x
        · rw [e]; exact hin
        · exact hx y (by omega)
      · show ns.length + 1 - ((x : Int) + 1).toNat < ns.length + 1 - ((x : Int)).toNat
        omega
    · refine ⟨_, rfl, ?_⟩
      have e : x = mex ns := mex_unique ⟨fun h => hno ((mem x).mpr h), hx⟩ (mex_spec ns)
      rw [← e] at k
      exact k _ (same_upd fp)
end
end RW
end

/-! ## F8 -/
section
set_option Elab.async false
set_option linter.all false
set_option maxRecDepth 100000
set_option maxHeartbeats 4000000
namespace RW
open PySem PySem.Spec PyProof.Rows L2
/-! ### tuples and lists of ints as data -/
def dIs (ns : List Nat) : List PyData := ns.map fun n : Nat => PyData.int (n : Int)
theorem dIs_lay : ∀ ns : List Nat, PyData.canLayAll0 (dIs ns) = true
  | [] => rfl
  | n :: ns => by
    show (PyData.canLay0 (.int (n : Int)) && PyData.canLayAll0 (dIs ns)) = true
    rw [dIs_lay ns]
    rfl
theorem dIs_depth : ∀ ns : List Nat, PyData.depthAll (dIs ns) = 0
  | [] => rfl
  | n :: ns => by
    show max (PyData.depth (.int (n : Int))) (PyData.depthAll (dIs ns)) = 0
    rw [dIs_depth ns]
    rfl
theorem dIs_eqv : ∀ ns ms : List Nat, PyData.eqvAll (dIs ns) (dIs ms) = decide (ns = ms)
  | [], [] => rfl
  | [], m :: ms => rfl
  | n :: ns, [] => rfl
  | n :: ns, m :: ms => by
    show (((n : Int) == (m : Int)) && PyData.eqvAll (dIs ns) (dIs ms)) = _
    rw [dIs_eqv ns ms]
    by_cases h : n = m
    · subst h
      simp
    · have : ¬ ((n : Int) = (m : Int)) := by omega
      simp [h, this]
theorem dTup_shaped (ns : List Nat) : SeqAt.shaped (.tuple (dIs ns)) = true := by
  show (PyData.canLayAll0 (dIs ns) && decide (PyData.depthAll (dIs ns) + 1 ≤ 64)) = true
  rw [dIs_lay, dIs_depth]
  rfl
theorem dAll {K : PySem.W.Frag} {H : Hp} : ∀ ns : List Nat, DpAll K H (ns.map sN) (dIs ns)
  | [] => .nil
  | n :: ns => .cons (.int _) (dAll ns)
theorem getN {ns : List Nat} {i n : Nat} (h : ns[i]? = some n) : (ns.map sN)[i]? = some (sN n) := by rw [List.getElem?_map, h]; rfl
theorem cutN (ns : List Nat) (lo hi : Option Int) : cutV (ns.map sN) lo hi = ((ns.drop (HT.sIx ns.length 0 lo)).take (HT.sIx ns.length ns.length hi - HT.sIx ns.length 0 lo)).map sN := by
  unfold cutV
  rw [List.length_map, ← List.map_drop, ← List.map_take]
section
variable {w : World} {K : PySem.W.Frag} {mg : Str → Option Value} {base : Heap}
/-! ### grown -/
def spGrown (K : PySem.W.Frag) : Sp := fun vs H Q _ => ∃ (b l : Addr) (rs : List Rl) (k many : Nat), vs = [.ref b, .ref l, sN many] ∧ BookAt K H b rs ∧ H l = some (.lst ((rowG rs k).map sN)) ∧ k ≤ many ∧ many ≤ 10000 ∧ ∀ p H', Same H H' → H p = none → H' p = some (.lst ((rowG rs many).map sN)) → Q (.ref p) H'
theorem row_len (rs : List Rl) (k : Nat) : ((rowG rs k).map sN).length = k := by rw [List.length_map, rowG_len]
theorem ok_grown (T : Txt K mg) : F0 PP w K mg base 7 (a_grown K) (spGrown K) := by
  have S : FnScope ["book", "known", "many", "found", "heap", "left"] ["book", "known", "many"] (defScope s_grown) := ⟨rfl, rfl, rfl, by decide +kernel, rfl, by decide +kernel, by decide +kernel⟩
  refine fd_ok T.f_grown S (fun vs H Q E h => ?_) (fun _ _ _ _ _ _ us hl => match us, hl with | [_, _, _], _ => rfl) (fun cdv A outer s H vs Q E hr h => ?_)
  · obtain ⟨b, l, rs, k, many, rfl, _⟩ := h; rfl
  · obtain ⟨b, l, rs, k, many, rfl, hB, hl, hk, hm, kk⟩ := h
    have nd := S.nd
    have hok := hB.ok
    have hfew := hB.few
    refine ⟨_, pss_cons (ps_set (i := 3) nd rfl (.inr rfl) (pe_callTy call_list_of (by rfl) T.z_list boot_list (pa_cons (pv 1) pa_nil)))
      (pss_cons (ps_for PassesOwn.never rfl (pi_range2 rfl T.z_range (pa_cons (pe_callB call_len_seq (by rfl) T.z_len PySem.boot_len (pa_cons (pv 1) pa_nil)) (pa_cons (pv 2) pa_nil))) (pg_name (i := 4) nd rfl (.inl rfl))
        (pss_one (ps_expr (pe_bm PySem.F.plainAttrs_list PySem.F.slot_list_append PySem.F.type_list_append mt_append (pv 3) (pa_cons
          (c_call (ok_least_missing T) (hr.mono (by decide)) T.g_least_missing T.f_least_missing.kp (pa_cons (pe_lc (own := [("left", 5)]) (g := gName 5) (tt := tYes) rfl nd (pi_tup (c_meth (pv 0) T.c_Book T.m_Book_lefts (ok_lefts T) hr (pa_cons (pv 4) pa_nil)))
            (blkOk_by (own := [("left", 5)]) (N := ["book", "known", "many", "found", "heap", "left"]) (sc := defScope s_grown) (by decide +kernel)) (fun _ _ _ _ _ => pg_name (i := 5) nd rfl (Or.inl rfl)) (fun _ _ _ _ _ => pts_nil) (fun _ _ _ _ _ => pe_ix (r := rIxL K) ix_list (pv 3) (pv 5) (fun _ _ => rfl))) pa_nil)) pa_nil)))))
      (pss_one (ps_ret (pv 3)))), ?_⟩
    refine ⟨_, rfl, l, _, rfl, .inl (.inl (.inl hl)), fun p hp => ?_⟩
    have npl : l ≠ p := ne_of_none hl hp
    have sm1 : Same H (upd H p (.lst ((rowG rs k).map sN))) := same_upd hp
    refine ⟨_, rfl, l, _, rfl, .inl (.inl (.inl (sm1 _ _ hl))), _, rfl, _, _, rfl, by rw [row_len]; omega, ?_⟩
    rw [row_len]
    have hn : ((many : Int) - (k : Int)).toNat = many - k := by omega
    rw [hn]
    refine for_range (lo := (k : Int)) (n := many - k) (fun i σ H' => ∃ v, σ = [some (.ref b), some (.ref l), some (sN many), some (.ref p), v, none] ∧ SmX p H H' ∧ H' p = some (.lst ((rowG rs (k + i)).map sN)))
      ⟨none, rfl, SmX.same sm1, upd_same⟩ ?_ ?_
    · rintro i σ H' hi ⟨v, rfl, smx, hp'⟩
      have sm : Same H H' := smx.toSame hp
      have hB' : BookAt K H' b rs := hB.kp (GF.Same.kp sm)
      obtain ⟨dx, _, _, _, _, _, _, hb, _⟩ := id hB'
      have ek : (k : Int) + (i : Nat) = ((k + i : Nat) : Int) := by omega
      refine ⟨_, rfl, .inl ⟨rfl, _, .inl (.inl hp')⟩, ?_⟩
      refine ⟨_, rfl, b, dx, _, rfl, hb, rfl, _, rfl, b, rs, k + i, by rw [ek]; rfl, by unfold heapMax; omega, hB', fun t H2 sm2 ft ht => ⟨t, rfl, ⟨_, .inl (.inl ht)⟩, fun D hD => ?_⟩⟩
      have hp2 : H2 p = some (.lst ((rowG rs (k + i)).map sN)) := sm2 _ _ hp'
      have nDp : D ≠ p := (ne_of_none hp2 hD).symm
      have nDt : D ≠ t := (ne_of_none ht hD).symm
      refine lc_tup (K := K) (a := t) (xs := (leftsOf rs (k + i)).map sN) (fun j H' => H' = upd H2 D (.lst ((((leftsOf rs (k + i)).take j).map (g rs)).map sN))) rfl
        (fun j H' _ e => by rw [e]; exact .inl (.inl (by rw [upd_ne (Ne.symm nDt)]; exact ht))) ?_ ?_
      · rintro j x H' hx rfl
        rw [List.getElem?_map] at hx
        cases el : (leftsOf rs (k + i))[j]? with
        | none => rw [el] at hx; cases hx
        | some lf =>
          rw [el] at hx
          cases hx
          have hlt := lefts_len hok lf (List.mem_of_getElem? el)
          have hlen2 := lefts_two hok hfew (k + i)
          have hj : j < (leftsOf rs (k + i)).length := (List.getElem?_eq_some_iff.mp el).1
          refine ⟨rfl, _, rfl, _, rfl, p, _, _, _, rfl, rfl, .inl (.inl (by rw [upd_ne (Ne.symm nDp)]; exact hp2)), atI_nat (getN (rowG_get rs hlt)), _, upd_same, ?_, ?_⟩
          · rw [List.length_map, List.length_map, List.length_take]
            exact small1000 (by omega)
          · rw [upd_upd]
            congr 2
            rw [List.take_add_one, el, List.map_append, List.map_append]
            rfl
      · rintro H' rfl
        have hfull : (leftsOf rs (k + i)).take ((leftsOf rs (k + i)).map sN).length = leftsOf rs (k + i) := by rw [List.length_map]; exact List.take_length
        rw [hfull]
        have hlen2 := lefts_two hok hfew (k + i)
        refine ⟨D, (leftsOf rs (k + i)).map (g rs), rfl, upd_same, by rw [List.length_map]; omega, fun H4 sm4 => ?_⟩
        have smA : Same H2 H4 := (same_upd hD).trans sm4
        have hp4 : H4 p = some (.lst ((rowG rs (k + i)).map sN)) := smA _ _ hp2
        refine ⟨p, _, _, rfl, rfl, hp4, by rw [row_len]; exact Nat.lt_of_lt_of_le (by omega : k + i < 10001) (by decide), ?_⟩
        refine ⟨_, rfl, fun c o hc e => ?_, ?_⟩
        · rw [upd_ne hc]
          exact smA _ _ (sm2 _ _ (sm _ _ e))
        · rw [upd_same]
          congr 2
          rw [← g_eq hok]
          have e1 : rowG rs (k + (i + 1)) = rowG rs (k + i) ++ [g rs (k + i)] := by
            rw [rowG_eq, rowG_eq, ← Nat.add_assoc, List.range_succ, List.map_append]
            rfl
          rw [e1, List.map_append]
          rfl
    · rintro σ H' ⟨v, rfl, smx, hp'⟩
      have e : k + (many - k) = many := by omega
      rw [e] at hp'
      exact ⟨_, rfl, kk p H' (smx.toSame hp) hp hp'⟩
/-! ### begin_of -/
def spBegin (K : PySem.W.Frag) : Sp := fun vs H Q _ => ∃ (l : Addr) (f : Nat → Nat) (L p : Nat), vs = [.ref l, sN p] ∧ H l = some (.lst (((List.range L).map f).map sN)) ∧ p ≤ L ∧ Q (sN (bgn f p (L - p))) H
theorem at_row {f : Nat → Nat} {L i : Nat} (h : i < L) : (((List.range L).map f).map sN)[i]? = some (sN (f i)) := by
  rw [List.getElem?_map, List.getElem?_map, List.getElem?_range h]; rfl
theorem ok_begin_of (T : Txt K mg) : F0 PP w K mg base 1 (a_begin_of K) (spBegin K) := by
  have S : FnScope ["found", "period", "place"] ["found", "period"] (defScope s_begin_of) := ⟨rfl, rfl, rfl, by decide +kernel, rfl, by decide +kernel, by decide +kernel⟩
  refine fd_ok T.f_begin_of S (fun vs H Q E h => ?_) (fun _ _ _ _ _ _ us hl => match us, hl with | [_, _], _ => rfl) (fun cdv A outer s H vs Q E hr h => ?_)
  · obtain ⟨l, f, L, p, rfl, _⟩ := h; rfl
  · obtain ⟨l, f, L, p, rfl, hl, hp, k⟩ := h
    refine ⟨_, pss_cons (ps_set (i := 2) S.nd rfl (.inl rfl) (pe_op op_sub (pe_callB call_len_seq (by rfl) T.z_len PySem.boot_len (pa_cons (pv 0) pa_nil)) (pv 1)))
      (pss_cons (ps_while PassesOwn.never (pt_m (PW.pt (pw_and (pt_cmpR op_gt (pv 2) pe_int (nomark _)) (pw_and1 (pt_cmpR op_eq (pe_ix ix_list (pv 0) (pe_op op_sub (pv 2) pe_int) (fun _ _ => rfl)) (pe_ix ix_list (pv 0) (pe_op op_add (pe_op op_sub (pv 2) pe_int) (pv 1)) (fun _ _ => rfl)) (nomark _))))))
        (pss_one (ps_aug (i := 2) S.nd rfl (.inl rfl) pe_int ip_sub))) (pss_one (ps_ret (pv 2)))), ?_⟩
    have hlen : (((List.range L).map f).map sN).length = L := by simp
    refine ⟨_, rfl, l, _, rfl, .inl (.inl (.inl hl)), _, rfl, _, _, rfl, rfl, ?_⟩
    rw [hlen]
    refine while_m (fun σ' H' => ∃ c : Nat, σ' = [some (.ref l), some (sN p), some (sN c)] ∧ c ≤ L - p ∧ bgn f p c = bgn f p (L - p) ∧ H' = H) (fun σ' _ => match σ' with | [_, _, some (.int z)] => z.toNat | _ => 0)
      ⟨L - p, by show [_, _, some (V.int ((L : Int) - (p : Int)))] = _; unfold sN; rw [Int.natCast_sub hp], Nat.le_refl _, rfl, rfl⟩ ?_
    rintro σ' H' ⟨c, rfl, hc, hb, rfl⟩
    refine ⟨_, rfl, _, _, rfl, rfl, _, rfl, ?_⟩
    cases c with
    | zero =>
      refine ite2 (fun h => absurd (of_decide_eq_true h) (by omega)) (fun _ => ?_)
      refine iteF ⟨_, rfl, ?_⟩
      rw [← hb] at k
      exact k
    | succ c =>
      refine ite2 (fun _ => ?_) (fun h => absurd (decide_eq_true (by omega : ((c + 1 : Nat) : Int) > 0)) h)
      have e1 : ((c + 1 : Nat) : Int) - 1 = (c : Nat) := by omega
      have e2 : ((c + 1 : Nat) : Int) - 1 + (p : Int) = ((c + p : Nat) : Int) := by omega
      refine ⟨_, rfl, _, rfl, _, _, rfl, rfl, l, _, _, sN (f c), rfl, rfl, .inl (.inl hl), by rw [e1]; exact atI_nat (at_row (by omega)), ?_⟩
      refine ⟨_, rfl, _, rfl, _, _, rfl, rfl, _, rfl, _, _, rfl, rfl, l, _, _, sN (f (c + p)), rfl, rfl, .inl (.inl hl), by rw [e2]; exact atI_nat (at_row (by omega)), rfl, _, rfl, ?_⟩
      refine ite2 (fun h => ?_) (fun h => ?_)
      · have e : f c = f (c + p) := by
          have := of_decide_eq_true h
          unfold sN at this
          have := vint.mp this
          omega
        refine ⟨_, rfl, _, _, rfl, rfl, ⟨c, by show [some (V.ref l), some (sN p), some (V.int (((c + 1 : Nat) : Int) - 1))] = _; rw [e1]; rfl, by omega, ?_, rfl⟩, ?_⟩
        · rw [← hb]
          show _ = (if f c = f (c + p) then bgn f p c else c + 1)
          rw [if_pos e]
        · show (((c + 1 : Nat) : Int) - 1).toNat < (((c + 1 : Nat) : Int)).toNat
          omega
      · refine ⟨_, rfl, ?_⟩
        have e : ¬ f c = f (c + p) := fun e => h (decide_eq_true (by rw [e]))
        have : bgn f p (c + 1) = c + 1 := by
          show (if f c = f (c + p) then bgn f p c else c + 1) = c + 1
          rw [if_neg e]
        rw [← hb, this] at k
        exact k
end
end RW
end

/-! ## F9 -/
section
set_option Elab.async false
set_option linter.all false
set_option maxRecDepth 100000
set_option maxHeartbeats 4000000
namespace RW
open PySem PySem.Spec PyProof.Rows L2
section
variable {w : World} {K : PySem.W.Frag} {mg : Str → Option Value} {base : Heap}
theorem fdN (a b : Nat) : Int.fdiv (a : Int) (b : Int) = ((a / b : Nat) : Int) := by
  rw [Int.fdiv_eq_ediv_of_nonneg _ (by omega)]; rfl
theorem fmN (a b : Nat) : Int.fmod (a : Int) (b : Int) = ((a % b : Nat) : Int) := by
  rw [Int.fmod_eq_emod_of_nonneg _ (by omega)]; rfl
theorem dTup {K : PySem.W.Frag} {H : Hp} {a : Addr} {ns : List Nat} (h : H a = some (.tup (ns.map sN))) : Dp K H (.ref a) (.tuple (dIs ns)) := .tup (.inl (.inl h)) (dAll ns)
theorem eqvT (ns ms : List Nat) : PyData.eqv (.tuple (dIs ns)) (.tuple (dIs ms)) = decide (ns = ms) := dIs_eqv ns ms
/-! ### shortest_turn -/
def spST : Sp := fun vs H Q _ => ∃ (a : Addr) (ag : List Nat), vs = [.ref a] ∧ H a = some (.tup (ag.map sN)) ∧ ag ≠ [] ∧ ag.length ≤ 1000 ∧ ∀ b H' ag', Same H H' → H' b = some (.tup (ag'.map sN)) → ag' ≠ [] → ag'.length ≤ ag.length → (∀ n, cyc ag' n = cyc ag n) → Q (.ref b) H'
theorem ok_shortest_turn (T : Txt K mg) : F0 PP w K mg base 1 (a_shortest_turn K) spST := by
  have S : FnScope ["again", "many", "size"] ["again"] (defScope s_shortest_turn) := ⟨rfl, rfl, rfl, by decide +kernel, rfl, by decide +kernel, by decide +kernel⟩
  refine fd_ok T.f_shortest_turn S (fun vs H Q E h => ?_) (fun _ _ _ _ _ _ us hl => match us, hl with | [_], _ => rfl) (fun cdv A outer s H vs Q E hr h => ?_)
  · obtain ⟨a, ag, rfl, _⟩ := h; rfl
  · obtain ⟨a, ag, rfl, ha, hne, hz, k⟩ := h
    have nd := S.nd
    refine ⟨_, pss_cons (ps_set (i := 1) nd rfl (.inl rfl) (pe_callB call_len_seq (by rfl) T.z_len PySem.boot_len (pa_cons (pv 0) pa_nil)))
      (pss_cons (ps_for PassesOwn.never rfl (pi_range2 rfl T.z_range (pa_cons pe_int (pa_cons (pv 1) pa_nil))) (pg_name (i := 2) nd rfl (.inl rfl))
        (pss_one (ps_if (PW.pt (pw_and (pt_cmpR op_eq (pe_op op_modN (pv 1) (pv 2)) pe_int (nomark _)) (pw_and1 (pt_cmpR (op_eqD hr.units) (pv 0) (pe_op op_repT (pe_slice sl_tupA (pv 0) po_none (po_some (pv 2))) (pe_op op_fdivN (pv 1) (pv 2))) (nomark _)))))
          (pss_one (ps_ret (pe_slice sl_tupA (pv 0) po_none (po_some (pv 2))))) pss_nil)))
      (pss_one (ps_ret (pv 0)))), ?_⟩
    have hL : (ag.map sN).length = ag.length := List.length_map ..
    have hpos : 0 < ag.length := List.length_pos_iff.mpr hne
    refine ⟨_, rfl, a, _, rfl, .inr (.inl (.inl ha)), _, rfl, 1, _, rfl, by rw [hL]; omega, ?_⟩
    rw [hL]
    have hn : ((ag.length : Int) - 1).toNat = ag.length - 1 := by omega
    rw [hn]
    refine for_range (lo := 1) (n := ag.length - 1) (fun i σ H' => ∃ v, σ = [some (.ref a), some (sN ag.length), v] ∧ Same H H') ⟨none, rfl, Same.refl H⟩ ?_ ?_
    · rintro i σ H' hi ⟨v, rfl, sm⟩
      have ei : (1 : Int) + (i : Nat) = ((i + 1 : Nat) : Int) := by omega
      refine ⟨_, rfl, _, rfl, _, _, rfl, rfl, by omega, rfl, _, rfl, ?_⟩
      refine ite2 (fun hd => ?_) (fun _ => ?_)
      · have hd : ag.length % (i + 1) = 0 := by
          have h1 := of_decide_eq_true hd
          have h1 : V.int (Int.fmod (ag.length : Int) ((1 : Int) + (i : Nat))) = V.int 0 := h1
          rw [ei, fmN, vint] at h1
          omega
        have hdv : (i + 1) ∣ ag.length := Nat.dvd_of_mod_eq_zero hd
        have hcut : cutV (ag.map sN) none (some ((1 : Int) + (i : Nat))) = (ag.take (i + 1)).map sN := by
          rw [cutN, ei, HT.sIx_nat]
          show ((ag.drop 0).take (min (i + 1) ag.length - 0)).map sN = _
          rw [List.drop_zero, Nat.sub_zero, Nat.min_eq_left (by omega)]
        have hnw : ¬ (HT.sIx (ag.map sN).length 0 none = 0 ∧ HT.sIx (ag.map sN).length (ag.map sN).length (some ((1 : Int) + (i : Nat))) = (ag.map sN).length) := by
          rintro ⟨_, h⟩
          rw [ei, HT.sIx_nat, hL] at h
          omega
        have hq : ag.length / (i + 1) ≥ 2 := by
          obtain ⟨c, hc⟩ := hdv
          rw [hc, Nat.mul_div_cancel_left _ (Nat.succ_pos i)]
          rcases Nat.lt_or_ge c 2 with q | q
          · exfalso
            have : (i + 1) * c ≤ (i + 1) * 1 := Nat.mul_le_mul_left _ (by omega)
            omega
          · exact q
        have hq2 : ag.length / (i + 1) ≤ 1000 := Nat.le_trans (Nat.div_le_self _ _) hz
        refine ⟨_, rfl, _, rfl, _, rfl, _, rfl, a, _, rfl, .inl (.inl (sm _ _ ha)), fun h => absurd h hnw, fun _ p hp => ?_⟩
        rw [hcut]
        have sm1 := same_upd3 (o := .tup ((ag.take (i + 1)).map sN)) sm hp
        have el : Int.fdiv (ag.length : Int) ((1 : Int) + (i : Nat)) = ((ag.length / (i + 1) : Nat) : Int) := by rw [ei, fdN]
        refine ⟨_, rfl, _, rfl, _, _, rfl, rfl, ⟨by omega, by omega⟩, ?_⟩
        show rRepT K (.ref p) (.int (Int.fdiv (ag.length : Int) ((1 : Int) + (i : Nat)))) _ _
        rw [el]
        refine ⟨p, _, _, rfl, rfl, .inl (.inl upd_same), ?_, by omega, by omega, ?_, fun q hq' => ?_⟩
        · intro h
          have h2 := congrArg List.length h
          rw [List.length_map, List.length_take] at h2
          have h2 : min (i + 1) ag.length = 0 := h2
          omega
        · rw [List.length_map, List.length_take]; omega
        have eflat : (List.replicate ((ag.length / (i + 1) : Nat) : Int).toNat ((ag.take (i + 1)).map sN)).flatten = ((List.replicate (ag.length / (i + 1)) (ag.take (i + 1))).flatten).map sN := by
          rw [Int.toNat_natCast, List.map_flatten, List.map_replicate]
        rw [eflat]
        have sm2 := same_upd3 (o := .tup (((List.replicate (ag.length / (i + 1)) (ag.take (i + 1))).flatten).map sN)) sm1 hq'
        refine ⟨_, _, dTup (sm2 _ _ ha), dTup upd_same, dTup_shaped _, dTup_shaped _, _, rfl, ?_⟩
        rw [eqvT]
        refine ite2 (fun he => ?_) (fun _ => ⟨_, rfl, sm2⟩)
        have he := of_decide_eq_true he
        refine ⟨_, rfl, _, rfl, _, rfl, a, _, rfl, .inl (.inl (sm2 _ _ ha)), fun h => absurd h hnw, fun _ r hr' => ?_⟩
        rw [hcut]
        refine k r _ (ag.take (i + 1)) (same_upd3 sm2 hr') upd_same ?_ ?_ (cyc_take (by omega) hdv (by omega) he)
        · intro h
          have h2 := congrArg List.length h
          rw [List.length_take] at h2
          have h2 : min (i + 1) ag.length = 0 := h2
          omega
        · rw [List.length_take]; omega
      · exact iteF ⟨_, rfl, sm⟩
    · rintro σ H' ⟨v, rfl, sm⟩
      exact ⟨_, rfl, k a H' ag sm (sm _ _ ha) hne (Nat.le_refl _) fun _ => rfl⟩
/-! ### least_form -/
def mu2 (σ : L2.St) : Nat := match σ with
  | [_, _, some (.int z)] => z.toNat
  | _ => 0
def LFI (a : Addr) (ah ag : List Nat) (H : Hp) (σ' : L2.St) (H' : Hp) : Prop := ∃ (q : Addr) (ag2 : List Nat) (c : Nat), σ' = [some (.ref a), some (.ref q), some (sN c)] ∧ Same H H' ∧ H' q = some (.tup (ag2.map sN)) ∧ ag2 ≠ [] ∧ ag2.length ≤ ag.length ∧ c ≤ ah.length ∧ ∀ n, tabf (ah.take c) ag2 n = tabf ah ag n
def spLF : Sp := fun vs H Q _ => ∃ (a b : Addr) (ah ag : List Nat), vs = [.ref a, .ref b] ∧ H a = some (.tup (ah.map sN)) ∧ H b = some (.tup (ag.map sN)) ∧ ag ≠ [] ∧ ag.length ≤ 1000 ∧ ah.length ≤ 1000 ∧
  ∀ t p q H' ah' ag', Same H H' → H' t = some (.tup [.ref p, .ref q]) → H' p = some (.tup (ah'.map sN)) → H' q = some (.tup (ag'.map sN)) → ag' ≠ [] → ag'.length ≤ 1000 → ah'.length ≤ 1000 → (∀ n, tabf ah' ag' n = tabf ah ag n) → Q (.ref t) H'
theorem ok_least_form (T : Txt K mg) : F0 PP w K mg base 2 (a_least_form K) spLF := by
  have S : FnScope ["ahead", "again", "many"] ["ahead", "again"] (defScope s_least_form) := ⟨rfl, rfl, rfl, by decide +kernel, rfl, by decide +kernel, by decide +kernel⟩
  refine fd_ok T.f_least_form S (fun vs H Q E h => ?_) (fun _ _ _ _ _ _ us hl => match us, hl with | [_, _], _ => rfl) (fun cdv A outer s H vs Q E hr h => ?_)
  · obtain ⟨a, b, ah, ag, rfl, _⟩ := h; rfl
  · obtain ⟨a, b, ah, ag, rfl, ha, hb, hne, hz1, hz2, k⟩ := h
    have nd := S.nd
    refine ⟨_, pss_cons (ps_set (i := 1) nd rfl (.inl rfl) (c_call (ok_shortest_turn T) hr T.g_shortest_turn T.f_shortest_turn.kp (pa_cons (pv 1) pa_nil)))
      (pss_cons (ps_set (i := 2) nd rfl (.inl rfl) (pe_callB call_len_seq (by rfl) T.z_len PySem.boot_len (pa_cons (pv 0) pa_nil)))
      (pss_cons (ps_while PassesOwn.never (pt_m (PW.pt (pw_and (pt_cmpR op_gt (pv 2) pe_int (nomark _)) (pw_and1 (pt_cmpR op_eq (pe_ix ix_tup (pv 0) (pe_op op_sub (pv 2) pe_int) (fun _ _ => rfl)) (pe_ix ix_tup (pv 1) (pe_un un_neg pe_int) (fun _ _ => rfl)) (nomark _))))))
        (pss_cons (ps_set (i := 1) nd rfl (.inl rfl) (pe_op op_catA (pe_slice sl_tupA (pv 1) (po_some (pe_un un_neg pe_int)) po_none) (pe_slice sl_tupA (pv 1) po_none (po_some (pe_un un_neg pe_int)))))
          (pss_one (ps_set (i := 2) nd rfl (.inl rfl) (pe_op op_sub (pv 2) pe_int)))))
      (pss_one (ps_ret (pe_tup (pa_cons (pe_slice sl_tupA (pv 0) po_none (po_some (pv 2))) (pa_cons (pv 1) pa_nil))))))), ?_⟩
    refine ⟨_, rfl, b, ag, rfl, hb, hne, hz1, fun q H1 ag1 sm1 hq1 hne1 hl1 hc1 => ?_⟩
    refine ⟨_, rfl, a, _, rfl, .inr (.inl (.inl (sm1 _ _ ha))), ?_⟩
    rw [List.length_map]
    refine while_m (LFI a ah ag H) (fun σ' _ => mu2 σ') ⟨q, ag1, ah.length, rfl, sm1, hq1, hne1, hl1, Nat.le_refl _, fun n => by rw [List.take_length]; exact tab_congr hc1 n⟩ ?_
    rintro σ' H' ⟨q, ag2, c, rfl, sm, hq, hne2, hl2, hc, htab⟩
    have ha' := sm _ _ ha
    have fin : tRet (tTup (tCons (tSl (rSlA K) (tVar 0) tNoPart (tPart (tVar 2))) (tCons (tVar 1) tNil))) { nx := fun x H' => Q V.non H', rt := Q } [some (.ref a), some (.ref q), some (sN c)] H' := by
      have e1 : HT.sIx (ah.map sN).length (ah.map sN).length (some (c : Int)) = c := by rw [HT.sIx_nat, List.length_map]; exact Nat.min_eq_left hc
      refine ⟨_, rfl, _, rfl, _, rfl, a, _, rfl, .inl (.inl ha'), fun hw => ?_, fun _ p hp => ?_⟩
      · have ec : c = ah.length := by
          have h2 := hw.2
          rw [e1, List.length_map] at h2
          exact h2
        refine ⟨_, rfl, by show 2 ≤ sizeLine; decide, fun t ht => ?_⟩
        have smt := same_upd (o := .tup [.ref a, .ref q]) ht
        refine k t a q _ ah ag2 (sm.trans smt) upd_same (smt _ _ ha') (smt _ _ hq) hne2 (by omega) hz2 fun n => ?_
        have h3 := htab n
        rw [ec, List.take_length] at h3
        exact h3
      · have hcut : cutV (ah.map sN) none (some (c : Int)) = (ah.take c).map sN := by
          rw [cutN, HT.sIx_nat]
          show ((ah.drop 0).take (min c ah.length - 0)).map sN = _
          rw [List.drop_zero, Nat.sub_zero, Nat.min_eq_left hc]
        rw [hcut]
        have sm1 := same_upd (o := .tup ((ah.take c).map sN)) hp
        refine ⟨_, rfl, by show 2 ≤ sizeLine; decide, fun t ht => ?_⟩
        have smt := same_upd (o := .tup [.ref p, .ref q]) ht
        refine k t p q _ (ah.take c) ag2 (sm.trans (sm1.trans smt)) upd_same (smt _ _ upd_same) (smt _ _ (sm1 _ _ hq)) hne2 (by omega) (by rw [List.length_take]; omega) htab
    refine ⟨_, rfl, _, _, rfl, rfl, _, rfl, ?_⟩
    cases c with
    | zero =>
      refine ite2 (fun h => absurd (of_decide_eq_true h) (by omega)) (fun _ => ?_)
      exact iteF fin
    | succ c =>
      refine ite2 (fun _ => ?_) (fun h => absurd (decide_eq_true (by omega : ((c + 1 : Nat) : Int) > 0)) h)
      have e1 : ((c + 1 : Nat) : Int) - 1 = (c : Nat) := by omega
      obtain ⟨x, hx⟩ : ∃ x, ah[c]? = some x := ⟨_, List.getElem?_eq_getElem (by omega)⟩
      obtain ⟨t, y, hty⟩ : ∃ t y, ag2 = t ++ [y] := ⟨ag2.dropLast, ag2.getLast hne2, (List.dropLast_concat_getLast hne2).symm⟩
      have hlast : atI (ag2.map sN) (-1) = some (sN y) := by
        rw [hty, List.map_append]
        exact atI_last _ _
      refine ⟨_, rfl, _, rfl, _, _, rfl, rfl, a, _, _, sN x, rfl, rfl, .inl (.inl ha'), by rw [e1]; exact atI_nat (getN hx), ?_⟩
      refine ⟨_, rfl, 1, rfl, q, _, _, sN y, rfl, rfl, .inl (.inl hq), hlast, rfl, _, rfl, ?_⟩
      refine ite2 (fun h => ?_) (fun _ => fin)
      have exy : x = y := by
        have := of_decide_eq_true h
        have := vint.mp this
        omega
      subst exy
      have hl : (ag2.map sN).length = t.length + 1 := by rw [hty]; simp
      have s1 : HT.sIx (t.length + 1) 0 (some (-1)) = t.length := by
        show (if (-1 : Int) < 0 then ((-1 : Int) + ((t.length + 1 : Nat) : Int)).toNat else min (-1 : Int).toNat (t.length + 1)) = t.length
        rw [if_pos (by decide)]
        omega
      have s2 : HT.sIx (t.length + 1) (t.length + 1) (some (-1)) = t.length := by
        show (if (-1 : Int) < 0 then ((-1 : Int) + ((t.length + 1 : Nat) : Int)).toNat else min (-1 : Int).toNat (t.length + 1)) = t.length
        rw [if_pos (by decide)]
        omega
      have c2 : cutV (ag2.map sN) none (some (-1)) = t.map sN := by
        unfold cutV
        rw [hl, s2]
        show ((ag2.map sN).drop 0).take (t.length - 0) = _
        rw [List.drop_zero, Nat.sub_zero, hty, List.map_append, List.take_append_of_le_length (by simp)]
        exact List.take_of_length_le (by simp)
      have c1 : cutV (ag2.map sN) (some (-1)) none = [sN x] := by
        unfold cutV
        rw [hl, s1]
        show ((ag2.map sN).drop t.length).take (t.length + 1 - t.length) = _
        rw [hty, List.map_append, List.drop_append_of_le_length (by simp), List.drop_of_length_le (by simp)]
        simp
      have next : ∀ (r : Addr) (H2 : Hp), Same H' H2 → H2 r = some (.tup ((x :: t).map sN)) → tAsg (tOp (rI0 fun i j => .int (i - j)) (tVar 2) (tC (.int 1))) (gName 2) { nx := fun σ' H'' => LFI a ah ag H σ' H'' ∧ mu2 σ' < mu2 [some (.ref a), some (.ref q), some (sN (c + 1))], rt := Q } [some (.ref a), some (.ref r), some (sN (c + 1))] H2 := by
        intro r H2 sm2 hr2
        refine ⟨_, rfl, _, _, rfl, rfl, ⟨r, x :: t, c, ?_, sm.trans sm2, hr2, by simp, ?_, by omega, fun n => ?_⟩, ?_⟩
        · show [some (V.ref a), some (V.ref r), some (V.int (((c + 1 : Nat) : Int) - 1))] = _
          rw [e1]
          rfl
        · have : ag2.length = t.length + 1 := by rw [hty]; simp
          rw [List.length_cons]
          omega
        · rw [← htab n]
          exact tab_rot hty (by omega) hx n
        · show (((c + 1 : Nat) : Int) - 1).toNat < (((c + 1 : Nat) : Int)).toNat
          omega
      refine ⟨_, rfl, 1, rfl, -1, rfl, q, _, rfl, .inl (.inl hq), fun hw => ?_, fun hnw p1 hp1 => ?_⟩
      · -- one item: the slice is the row itself
        have ht0 : t.length = 0 := by
          have := hw.1
          rw [hl, s1] at this
          exact this
        have ht : t = [] := List.length_eq_zero_iff.mp ht0
        refine ⟨_, rfl, 1, rfl, -1, rfl, q, _, rfl, .inl (.inl hq), fun hw2 => ?_, fun _ p2 hp2 => ?_⟩
        · exfalso
          have := hw2.2
          rw [hl, s2] at this
          omega
        · rw [c2]
          have sm2 := same_upd (o := .tup (t.map sN)) hp2
          refine ⟨q, p2, _, _, rfl, rfl, .inl (.inl (sm2 _ _ hq)), .inl (.inl upd_same), ?_, fun h => ?_, fun _ _ => ?_, fun _ h => ?_⟩
          · rw [hl, List.length_map, ht0]; decide
          · exfalso
            have := congrArg List.length h
            rw [hl] at this
            cases this
          · refine next q _ sm2 ?_
            rw [sm2 _ _ hq, hty, ht]
            rfl
          · exact absurd (by rw [ht]; rfl) h
      · rw [c1]
        have sm1' := same_upd (o := .tup [sN x]) hp1
        have ht : t ≠ [] := fun h => hnw ⟨by rw [hl, s1, h]; rfl, rfl⟩
        have hq' := sm1' _ _ hq
        refine ⟨_, rfl, 1, rfl, -1, rfl, q, _, rfl, .inl (.inl hq'), fun hw2 => ?_, fun _ p2 hp2 => ?_⟩
        · exfalso
          have := hw2.2
          rw [hl, s2] at this
          omega
        · rw [c2]
          have sm2 := same_upd (o := .tup (t.map sN)) hp2
          have np : p1 ≠ p2 := fun z => by rw [← z, upd_same] at hp2; cases hp2
          have hle : t.length + 1 ≤ 1000 := by
            have : ag2.length = t.length + 1 := by rw [hty]; simp
            omega
          refine ⟨p1, p2, _, _, rfl, rfl, .inl (.inl (sm2 _ _ upd_same)), .inl (.inl upd_same), ?_, (fun h => nomatch h), fun _ h => absurd (List.map_eq_nil_iff.mp h) ht, fun _ _ p3 hp3 => ?_⟩
          · rw [List.length_map, List.length_cons, List.length_nil]
            exact Nat.le_of_lt (small1000 (by omega))
          · exact next p3 _ (sm1'.trans (sm2.trans (same_upd hp3))) upd_same
end
end RW
end

/-! ## F10 -/
section
set_option Elab.async false
set_option linter.all false
set_option maxRecDepth 100000
set_option maxHeartbeats 4000000
namespace RW
open PySem PySem.Spec PyProof.Rows L2
/-- a table at p that tells the function fn -/
def tFs (b p : Nat) (t : Addr) : List (Str × V) := [("begin", sN b), ("period", sN p), ("numbers", .ref t)]
def TableAt (K : PySem.W.Frag) (H : Hp) (p : Addr) (fn : Nat → Nat) : Prop := ∃ (dx t : Addr) (ah ag : List Nat), H p = some (.ins (kTable K) dx (tFs ah.length ag.length t)) ∧ H t = some (.tup ((ah ++ ag).map sN)) ∧ ag ≠ [] ∧ ∀ n, tabf ah ag n = fn n
theorem TableAt.kp {K : PySem.W.Frag} {H H' : Hp} {p : Addr} {fn : Nat → Nat} (h : TableAt K H p fn) (k : GF.Kp H H') : TableAt K H' p fn :=
  let ⟨dx, t, ah, ag, h1, h2, h3⟩ := h; ⟨dx, t, ah, ag, kpi k h1, kpt k h2, h3⟩
section
variable {w : World} {K : PySem.W.Frag} {mg : Str → Option Value} {base : Heap}
theorem kit_l {K : PySem.W.Frag} : PySem.W.kitAny K (.type "list") [.type "list", .type "tuple"] = some true := kit_lt
/-! ### are_worths -/
def spAW : Sp := fun vs H Q _ => ∃ (l : Addr) (ns : List Nat), vs = [.ref l, sN ns.length] ∧ H l = some (.lst (ns.map sN)) ∧ ns.length ≤ 1000 ∧ (∀ n ∈ ns, n ≤ 400) ∧ ns[0]? = some 0 ∧ ∀ H', Same H H' → Q (.bl true) H'
theorem ok_are_worths (T : Txt K mg) : F0 PP w K mg base 2 (a_are_worths K) spAW := by
  have S : FnScope ["value", "many", "worth"] ["value", "many"] (defScope s_are_worths) := ⟨rfl, rfl, rfl, by decide +kernel, rfl, by decide +kernel, by decide +kernel⟩
  refine fd_ok T.f_are_worths S (fun vs H Q E h => ?_) (fun _ _ _ _ _ _ us hl => match us, hl with | [_, _], _ => rfl) (fun cdv A outer s H vs Q E hr h => ?_)
  · obtain ⟨l, ns, rfl, _⟩ := h; rfl
  · obtain ⟨l, ns, rfl, hl, hz, h4, h0, k⟩ := h
    have nd := S.nd
    obtain ⟨tk, hk⟩ := T.k_MOST_WORTH
    refine ⟨_, pss_cons (ps_if (PW.pt (pw_or (pt_not (pt_val (pe_callB call_isiT (by rfl) T.z_isinstance boot_isinstance (pa_cons (pv 0) (pa_cons (pe_tup (pa_cons (pe_bltn (v := .ty "list") rfl T.z_list boot_list rfl) (pa_cons (pe_bltn (v := .ty "tuple") rfl T.z_tuple boot_tuple rfl) pa_nil))) pa_nil)))))
        (pw_or1 (pt_cmpR op_ne (pe_callB call_len_seq (by rfl) T.z_len PySem.boot_len (pa_cons (pv 0) pa_nil)) (pv 1) (nomark _))))) (pss_one (ps_ret pe_bl)) pss_nil)
      (pss_one (ps_ret (pe_and (pe_callB (cr_all rfl) (by rfl) T.z_all (by decide +kernel) (pa_cons (pe_lc (own := [("worth", 2)]) (g := gName 2) (tt := tYes) rfl nd (pi_list (pv 0)) (blkOk_by (own := [("worth", 2)]) (N := ["value", "many", "worth"]) (sc := defScope s_are_worths) (by decide +kernel)) (fun _ _ _ _ _ => pg_name (i := 2) nd rfl (Or.inl rfl)) (fun _ _ _ _ _ => pts_nil)
          (fun _ _ _ _ _ => c_call (ok_is_integer T) hr T.g_is_integer T.f_is_integer.kp (pa_cons (pv 2) (pa_cons pe_int (pa_cons (pe_glob (v := .int 400) rfl hk ⟨_, rfl⟩) pa_nil))))) pa_nil)) (pe_one (pe_cmpR op_eq (pe_ix ix_list (pv 0) pe_int (fun _ _ => rfl)) pe_int (nomark _)))))), ?_⟩
    refine ⟨_, rfl, by decide, fun p hp => ?_⟩
    have np : l ≠ p := ne_of_none hl hp
    have sm1 := same_upd (o := .tup [.ty "list", .ty "tuple"]) hp
    refine ⟨.ref l, p, [.ty "list", .ty "tuple"], .type "list", [.type "list", .type "tuple"], true, rfl, upd_same, .cons (.ty _) (.cons (.ty _) .nil), .base (.lst (sm1 _ _ hl)), kit_lt, _, rfl, ?_⟩
    refine iteF ⟨_, rfl, l, _, rfl, .inl (.inl (.inl (sm1 _ _ hl))), _, rfl, rfl, _, rfl, ?_⟩
    rw [List.length_map]
    refine ite2 (fun h => ?_) (fun _ => ?_)
    · exfalso
      unfold sN at h
      simp at h
    refine ⟨_, rfl, l, rfl, ⟨_, .inl (.inl (sm1 _ _ hl))⟩, fun D hD => ?_⟩
    have nDl : D ≠ l := (ne_of_none (sm1 _ _ hl) hD).symm
    refine lc_list (K := K) (a := l) (xs := ns.map sN) (fun i H' => H' = upd (upd H p (.tup [.ty "list", .ty "tuple"])) D (.lst (List.replicate i (V.bl true)))) rfl (fun i H' _ e => by rw [e]; exact .inl (.inl (by rw [upd_ne (Ne.symm nDl)]; exact sm1 _ _ hl))) ?_ ?_
    · rintro i x H' hx rfl
      rw [List.getElem?_map] at hx
      cases en : ns[i]? with
      | none => rw [en] at hx; cases hx
      | some n =>
        rw [en] at hx
        cases hx
        have hn := h4 n (List.mem_of_getElem? en)
        have hi : i < ns.length := (List.getElem?_eq_some_iff.mp en).1
        refine ⟨rfl, _, rfl, _, _, _, rfl, _, upd_same, by rw [List.length_replicate]; exact small1000 (by omega), ?_⟩
        rw [upd_upd]
        congr 2
        rw [bd (by omega) (by omega), List.replicate_succ']
    · rintro H' rfl
      rw [List.length_map]
      refine ⟨D, List.replicate ns.length true, rfl, .inl (.inl (by rw [upd_same, List.map_replicate])), ?_⟩
      have e : (List.replicate ns.length true).all id = true := by
        rw [List.all_eq_true]
        intro b hb
        rw [List.eq_of_mem_replicate hb]
        rfl
      rw [e]
      have smD := same_upd3 (o := .lst (List.replicate ns.length (V.bl true))) sm1 hD
      refine ⟨_, rfl, ?_⟩
      refine iteT ⟨_, rfl, l, _, 0, sN 0, rfl, rfl, .inl (.inl (smD _ _ hl)), atI_nat (j := 0) (getN h0), rfl, ?_⟩
      exact k _ smD
/-! ### Table.__init__ -/
def spTab0 (K : PySem.W.Frag) : Sp := fun vs H Q _ => ∃ (p dx l : Addr) (b pd : Nat) (ns : List Nat), vs = [.ref p, sN b, sN pd, .ref l] ∧ H p = some (.ins (kTable K) dx []) ∧ H l = some (.lst (ns.map sN)) ∧ ns.length = b + pd ∧ 1 ≤ pd ∧ b + pd ≤ 1000 ∧ (∀ n ∈ ns, n ≤ 400) ∧ ns[0]? = some 0 ∧
  ∀ H', TableAt K H' p (tabf (ns.take b) (ns.drop b)) → SmX p H H' → Q .non H'
theorem ok_table0 (T : Txt K mg) : F0 PP w K mg base 3 (a_Table_init K) (spTab0 K) := by
  have S : FnScope ["self", "begin", "period", "numbers", "ahead", "again"] ["self", "begin", "period", "numbers"] (defScope s_Table_init) := ⟨rfl, rfl, rfl, by decide +kernel, rfl, by decide +kernel, by decide +kernel⟩
  refine fd_ok T.f_Table_init S (fun vs H Q E h => ?_) (fun _ _ _ _ _ _ us hl => match us, hl with | [_, _, _, _], _ => rfl) (fun cdv A outer s H vs Q E hr h => ?_)
  · obtain ⟨p, dx, l, b, pd, ns, rfl, _⟩ := h; rfl
  · obtain ⟨p, dx, l, b, pd, ns, rfl, hp, hl, hz, hpd, hm, h4, h0, k⟩ := h
    have nd := S.nd
    obtain ⟨tk, hk⟩ := T.k_MOST_PARTS
    have hr1 : Room 1 _ := hr.mono (by decide)
    refine ⟨_, pss_cons (ps_if (pt_not (pt_val (c_call (ok_is_integer T) hr1 T.g_is_integer T.f_is_integer.kp (pa_cons (pv 1) (pa_cons pe_int (pa_cons (pe_glob (v := .int 1000) rfl hk ⟨_, rfl⟩) pa_nil)))))) (pss_one ps_never) pss_nil)
      (pss_cons (ps_if (pt_not (pt_val (c_call (ok_is_integer T) hr1 T.g_is_integer T.f_is_integer.kp (pa_cons (pv 2) (pa_cons pe_int (pa_cons (pe_glob (v := .int 1000) rfl hk ⟨_, rfl⟩) pa_nil)))))) (pss_one ps_never) pss_nil)
      (pss_cons (ps_if (pt_not (pt_val (c_call (ok_are_worths T) hr T.g_are_worths T.f_are_worths.kp (pa_cons (pv 3) (pa_cons (pe_op op_add (pv 1) (pv 2)) pa_nil))))) (pss_one ps_never) pss_nil)
      (pss_cons (ps_asg (c_call (ok_least_form T) hr T.g_least_form T.f_least_form.kp (pa_cons (pe_callTy call_tuple_of (by rfl) T.z_tuple boot_tuple (pa_cons (pe_slice sl_list (pv 3) po_none (po_some (pv 1))) pa_nil)) (pa_cons (pe_callTy call_tuple_of (by rfl) T.z_tuple boot_tuple (pa_cons (pe_slice sl_list (pv 3) (po_some (pv 1)) po_none) pa_nil)) pa_nil)))
          (pg_tup rfl (pgs_cons (pg_name (i := 4) nd rfl (.inl rfl)) (pgs_cons (pg_name (i := 5) nd rfl (.inl rfl)) pgs_nil))))
      (pss_cons (ps_fld (pv 0) (pe_callB call_len_seq (by rfl) T.z_len PySem.boot_len (pa_cons (pv 4) pa_nil)) rfl)
      (pss_cons (ps_fld (pv 0) (pe_callB call_len_seq (by rfl) T.z_len PySem.boot_len (pa_cons (pv 5) pa_nil)) rfl)
      (pss_one (ps_fld (pv 0) (pe_tup (StX.pa_star (pv 4) (StX.pa_star (pv 5) pa_nil))) rfl))))))), ?_⟩
    refine ⟨_, rfl, _, _, _, rfl, _, rfl, ?_⟩
    rw [bd (by omega) (by omega)]
    refine iteF ?_
    refine ⟨_, rfl, _, _, _, rfl, _, rfl, ?_⟩
    rw [bd (by omega) (by omega)]
    refine iteF ?_
    refine ⟨_, rfl, _, rfl, _, rfl, _, _, rfl, rfl, l, ns, ?_, hl, by omega, h4, h0, fun H1 sm1 => ⟨_, rfl, ?_⟩⟩
    · show [V.ref l, V.int ((b : Int) + (pd : Int))] = _
      unfold sN
      rw [hz, Int.natCast_add]
    refine iteF ?_
    have ca : cutV (ns.map sN) none (some (b : Int)) = (ns.take b).map sN := by
      rw [cutN, HT.sIx_nat]
      show ((ns.drop 0).take (min b ns.length - 0)).map sN = _
      rw [List.drop_zero, Nat.sub_zero, Nat.min_eq_left (by omega)]
    have cb : cutV (ns.map sN) (some (b : Int)) none = (ns.drop b).map sN := by
      rw [cutN, HT.sIx_nat]
      show ((ns.drop (min b ns.length)).take (ns.length - min b ns.length)).map sN = _
      rw [Nat.min_eq_left (by omega)]
      congr 1
      apply List.take_of_length_le
      rw [List.length_drop]
      exact Nat.le_refl _
    refine ⟨_, rfl, _, rfl, _, rfl, l, _, rfl, .inl (.inl (sm1 _ _ hl)), fun p1 hp1 => ?_⟩
    rw [ca]
    have sm2 := same_upd3 (o := .lst ((ns.take b).map sN)) sm1 hp1
    refine ⟨p1, _, rfl, .inl ⟨.inl (.inl upd_same), fun p2 hp2 => ?_⟩⟩
    have sm3 := same_upd3 (o := .tup ((ns.take b).map sN)) sm2 hp2
    refine ⟨_, rfl, _, rfl, _, rfl, l, _, rfl, .inl (.inl (sm3 _ _ hl)), fun p3 hp3 => ?_⟩
    rw [cb]
    have sm4 := same_upd3 (o := .lst ((ns.drop b).map sN)) sm3 hp3
    refine ⟨p3, _, rfl, .inl ⟨.inl (.inl upd_same), fun p4 hp4 => ?_⟩⟩
    have sm5 := same_upd3 (o := .tup ((ns.drop b).map sN)) sm4 hp4
    have n24 : p2 ≠ p4 := fun z => by
      rw [← z, upd_ne (fun z2 => by rw [z2, upd_same] at hp3; cases hp3), upd_same] at hp4
      cases hp4
    have n23 : p2 ≠ p3 := fun z => by rw [← z, upd_same] at hp3; cases hp3
    refine ⟨p2, p4, ns.take b, ns.drop b, rfl, by rw [upd_ne n24, upd_ne n23]; exact upd_same, upd_same, fun h => ?_, by rw [List.length_drop]; omega, by rw [List.length_take]; omega, fun t pa pb H6 ah ag sm6 ht ha hb hne hl1 hl2 htab => ?_⟩
    · have := congrArg List.length h
      rw [List.length_drop] at this
      have : ns.length - b = 0 := this
      omega
    refine ⟨t, _, rfl, .inl (.inl ht), rfl, _, _, rfl, _, _, rfl, rfl, ?_⟩
    have sm := sm5.trans sm6
    have hp6 := sm _ _ hp
    refine ⟨_, rfl, pa, _, rfl, .inr (.inl (.inl ha)), _, rfl, p, _, dx, _, rfl, hp6, T.c_Table, T.n_Table_begin, by decide, ?_⟩
    have npa : pa ≠ p := tup_ne hp6 ha
    have npb : pb ≠ p := tup_ne hp6 hb
    rw [List.length_map]
    refine ⟨_, rfl, pb, _, rfl, .inr (.inl (.inl (by rw [upd_ne npb]; exact hb))), _, rfl, p, _, dx, _, rfl, upd_same, T.c_Table, T.n_Table_period, pl (by decide), ?_⟩
    rw [upd_upd, List.length_map]
    refine ⟨_, rfl, pa, _, rfl, .inl (.inl (.inl (by rw [upd_ne npa]; exact ha))), _, rfl, pb, _, rfl, .inl (.inl (.inl (by rw [upd_ne npb]; exact hb))), ?_, fun q hq => ?_⟩
    · simp only [List.append_nil, List.length_append, List.length_map]
      exact Nat.le_trans (by omega : _ ≤ 2000) (by decide)
    have nqp : q ≠ p := fun z => by rw [z, upd_same] at hq; cases hq
    have npq := nqp.symm
    refine ⟨_, rfl, p, _, dx, _, rfl, by rw [upd_ne npq]; exact upd_same, T.c_Table, T.n_Table_numbers, pl (pl (by decide)), ?_⟩
    refine k _ ⟨dx, q, ah, ag, upd_same, ?_, hne, htab⟩ ?_
    · rw [upd_ne nqp, upd_same, List.append_nil, List.map_append]
    · intro c o hc e
      rw [upd_ne hc]
      have nq : c ≠ q := fun z => by
        rw [← z, upd_ne hc] at hq
        rw [sm _ _ e] at hq
        cases hq
      rw [upd_ne nq, upd_ne hc]
      exact sm _ _ e
/-! ### worth_at -/
def spWorthAt (K : PySem.W.Frag) : Sp := fun vs H Q _ => ∃ (p : Addr) (n : Nat) (fn : Nat → Nat), vs = [.ref p, sN n] ∧ (n : Int) ≤ heapMax ∧ TableAt K H p fn ∧ Q (sN (fn n)) H
theorem ok_worth_at (T : Txt K mg) : F0 PP w K mg base 4 (a_Table_worth_at K) (spWorthAt K) := by
  have S : FnScope ["self", "heap"] ["self", "heap"] (defScope s_Table_worth_at) := ⟨rfl, rfl, rfl, by decide +kernel, rfl, by decide +kernel, by decide +kernel⟩
  refine fd_ok T.f_Table_worth_at S (fun vs H Q E h => ?_) (fun _ _ _ _ _ _ us hl => match us, hl with | [_, _], _ => rfl) (fun cdv A outer s H vs Q E hr h => ?_)
  · obtain ⟨p, n, fn, rfl, _⟩ := h; rfl
  · obtain ⟨p, n, fn, rfl, hn, ⟨dx, t, ah, ag, hp, ht, hne, htab⟩, k⟩ := h
    refine ⟨_, pss_cons (ps_expr (c_call (ok_need_heap T) hr T.g_need_heap T.f_need_heap.kp (pa_cons (pv 1) pa_nil)))
      (pss_cons (ps_if (pt_cmpR op_lt (pv 1) (pe_fld (pv 0) rfl) (nomark _)) (pss_one (ps_ret (pe_ix ix_tup (pe_fld (pv 0) rfl) (pv 1) (fun _ _ => rfl)))) pss_nil)
      (pss_one (ps_ret (pe_ix ix_tup (pe_fld (pv 0) rfl) (pe_op op_add (pe_fld (pv 0) rfl) (pe_op op_modN (pe_op op_sub (pv 1) (pe_fld (pv 0) rfl)) (pe_fld (pv 0) rfl))) (fun _ _ => rfl))))), ?_⟩
    refine ⟨_, rfl, _, rfl, by omega, hn, ?_⟩
    refine ⟨_, rfl, _, rfl, p, _, dx, _, _, rfl, hp, T.c_Table, T.n_Table_begin, rfl, _, _, rfl, rfl, _, rfl, ?_⟩
    have hpos : 0 < ag.length := List.length_pos_iff.mpr hne
    rw [← htab n] at k
    refine ite2 (fun h => ?_) (fun h => ?_)
    · have h := of_decide_eq_true h
      have hlt : n < ah.length := by omega
      refine ⟨_, rfl, p, _, dx, _, _, rfl, hp, T.c_Table, T.n_Table_numbers, rfl, _, rfl, t, _, _, sN (tabf ah ag n), rfl, rfl, .inl (.inl ht), atI_nat (getN ?_), k⟩
      unfold tabf
      rw [if_pos hlt, List.getElem?_append_left hlt, List.getD_eq_getElem?_getD, List.getElem?_eq_getElem hlt]
      rfl
    · have hge : ah.length ≤ n := by
        rcases Nat.lt_or_ge n ah.length with q | q
        · exact absurd (decide_eq_true (by omega)) h
        · exact q
      have ei : (ah.length : Int) + Int.fmod ((n : Int) - (ah.length : Int)) (ag.length : Int) = ((ah.length + (n - ah.length) % ag.length : Nat) : Int) := by
        have e1 : (n : Int) - (ah.length : Int) = ((n - ah.length : Nat) : Int) := by omega
        rw [e1, fmN, Int.natCast_add]
      have hm : (n - ah.length) % ag.length < ag.length := Nat.mod_lt _ hpos
      refine ⟨_, rfl, p, _, dx, _, _, rfl, hp, T.c_Table, T.n_Table_numbers, rfl, _, rfl, p, _, dx, _, _, rfl, hp, T.c_Table, T.n_Table_begin, rfl, ?_⟩
      refine ⟨_, rfl, _, rfl, p, _, dx, _, _, rfl, hp, T.c_Table, T.n_Table_begin, rfl, _, _, rfl, rfl, _, rfl, p, _, dx, _, _, rfl, hp, T.c_Table, T.n_Table_period, rfl, _, _, rfl, rfl, by omega, _, _, rfl, rfl, ?_⟩
      refine ⟨t, _, _, sN (tabf ah ag n), rfl, rfl, .inl (.inl ht), ?_, k⟩
      show atI _ ((ah.length : Int) + Int.fmod ((n : Int) - (ah.length : Int)) (ag.length : Int)) = _
      rw [ei]
      refine atI_nat (getN ?_)
      unfold tabf cyc
      rw [if_neg (by omega), List.getElem?_append_right (by omega), Nat.add_sub_cancel_left, List.getD_eq_getElem?_getD, List.getElem?_eq_getElem hm]
      rfl
theorem ok_table_get (T : Txt K mg) : F0 PP w K mg base 5 (a_Table_getitem K) (spWorthAt K) := by
  have S : FnScope ["self", "at"] ["self", "at"] (defScope s_Table_getitem) := ⟨rfl, rfl, rfl, by decide +kernel, rfl, by decide +kernel, by decide +kernel⟩
  refine fd_ok T.f_Table_getitem S (fun vs H Q E h => ?_) (fun _ _ _ _ _ _ us hl => match us, hl with | [_, _], _ => rfl) (fun cdv A outer s H vs Q E hr h => ?_)
  · obtain ⟨p, n, fn, rfl, _⟩ := h; rfl
  · obtain ⟨p, n, fn, rfl, hn, hT, k⟩ := h
    obtain ⟨dx, t, ah, ag, hp, _⟩ := id hT
    refine ⟨_, pss_one (ps_ret (c_meth (pv 0) T.c_Table T.m_Table_worth_at (ok_worth_at T) hr (pa_cons (pv 1) pa_nil))), ?_⟩
    exact ⟨_, rfl, p, dx, _, rfl, hp, rfl, _, rfl, p, n, fn, rfl, hn, hT, k⟩
end
end RW
end

/-! ## F11 -/
section
set_option Elab.async false
set_option linter.all false
set_option maxRecDepth 100000
set_option maxHeartbeats 4000000
namespace RW
open PySem PySem.Spec PyProof.Rows L2
def rowf (f : Nat → Nat) (L : Nat) : List Nat := (List.range L).map f
section
variable {w : World} {K : PySem.W.Frag} {mg : Str → Option Value} {base : Heap}
/-! ### table_in -/
def spTabIn (K : PySem.W.Frag) : Sp := fun vs H Q _ => ∃ (l : Addr) (f : Nat → Nat) (L bound : Nat), vs = [.ref l, sN bound] ∧ H l = some (.lst ((rowf f L).map sN)) ∧ 1 ≤ bound ∧ bound ≤ 1000 ∧ bound ≤ L ∧ (∀ n, f n ≤ 400) ∧ f 0 = 0 ∧
  (∀ t p H', Same H H' → H t = none → 1 ≤ p → p ≤ bound → bgn f p (L - p) + p ≤ bound → TableAt K H' t (tabf ((rowf f (bgn f p (L - p) + p)).take (bgn f p (L - p))) ((rowf f (bgn f p (L - p) + p)).drop (bgn f p (L - p)))) → Q (.ref t) H') ∧
  ((∀ p, 1 ≤ p → p ≤ bound → ¬ bgn f p (L - p) + p ≤ bound) → ∀ H', Same H H' → Q .non H')
theorem ok_table_in (T : Txt K mg) : F0 PP w K mg base 5 (a_table_in K) (spTabIn K) := by
  have S : FnScope ["found", "bound", "period", "begin"] ["found", "bound"] (defScope s_table_in) := ⟨rfl, rfl, rfl, by decide +kernel, rfl, by decide +kernel, by decide +kernel⟩
  refine fd_ok T.f_table_in S (fun vs H Q E h => ?_) (fun _ _ _ _ _ _ us hl => match us, hl with | [_, _], _ => rfl) (fun cdv A outer s H vs Q E hr h => ?_)
  · obtain ⟨l, f, L, bound, rfl, _⟩ := h; rfl
  · obtain ⟨l, f, L, bound, rfl, hl, hb1, hb2, hbL, hf, hf0, k1, k2⟩ := h
    have nd := S.nd
    refine ⟨_, pss_cons (ps_for PassesOwn.never rfl (pi_range2 rfl T.z_range (pa_cons pe_int (pa_cons (pe_op op_add (pv 1) pe_int) pa_nil))) (pg_name (i := 2) nd rfl (.inl rfl))
        (pss_cons (ps_set (i := 3) nd rfl (.inl rfl) (c_call (ok_begin_of T) (hr.mono (by decide)) T.g_begin_of T.f_begin_of.kp (pa_cons (pv 0) (pa_cons (pv 2) pa_nil))))
          (pss_one (ps_if (pt_cmpR op_le (pe_op op_add (pv 3) (pv 2)) (pv 1) (nomark _)) (pss_one (ps_ret (c_make T.mk_Table (ok_table0 T) hr T.g_Table (pa_cons (pv 3) (pa_cons (pv 2) (pa_cons (pe_slice sl_list (pv 0) po_none (po_some (pe_op op_add (pv 3) (pv 2)))) pa_nil)))))) pss_nil))))
      (pss_one (ps_ret pe_non)), ?_⟩
    refine ⟨_, rfl, _, _, rfl, rfl, 1, _, rfl, by omega, ?_⟩
    have hn : ((bound : Int) + 1 - 1).toNat = bound := by omega
    rw [hn]
    refine for_range (lo := 1) (n := bound) (fun i σ H' => ∃ v v', σ = [some (.ref l), some (sN bound), v, v'] ∧ H' = H ∧ ∀ p, 1 ≤ p → p ≤ i → ¬ bgn f p (L - p) + p ≤ bound) ⟨none, none, rfl, rfl, fun p h1 h2 => by omega⟩ ?_ ?_
    · rintro i σ H' hi ⟨v, v', rfl, rfl, hno⟩
      have ei : (1 : Int) + (i : Nat) = ((i + 1 : Nat) : Int) := by omega
      refine ⟨_, rfl, _, rfl, l, f, L, i + 1, by rw [ei]; rfl, hl, by omega, ?_⟩
      refine ⟨_, rfl, _, rfl, _, _, rfl, rfl, _, rfl, _, _, rfl, rfl, _, rfl, ?_⟩
      refine ite2 (fun hle => ?_) (fun hgt => ?_)
      · have hle := of_decide_eq_true hle
        have hle : bgn f (i + 1) (L - (i + 1)) + (i + 1) ≤ bound := by omega
        have eb : (bgn f (i + 1) (L - (i + 1)) : Int) + ((1 : Int) + (i : Nat)) = ((bgn f (i + 1) (L - (i + 1)) + (i + 1) : Nat) : Int) := by omega
        refine ⟨_, rfl, _, rfl, _, rfl, _, rfl, _, rfl, _, _, rfl, rfl, _, rfl, l, _, rfl, .inl (.inl hl), fun q hq => ?_⟩
        have hcut : cutV ((rowf f L).map sN) none (some ((bgn f (i + 1) (L - (i + 1)) : Int) + ((1 : Int) + (i : Nat)))) = (rowf f (bgn f (i + 1) (L - (i + 1)) + (i + 1))).map sN := by
          rw [cutN, eb, HT.sIx_nat]
          have hlen : (rowf f L).length = L := by unfold rowf; simp
          rw [hlen, Nat.min_eq_left (by omega)]
          show (((rowf f L).drop 0).take _).map sN = _
          show (((rowf f L).drop 0).take (_ - 0)).map sN = _
          rw [List.drop_zero, Nat.sub_zero]
          unfold rowf
          rw [← List.map_take, List.take_range, Nat.min_eq_left (by omega)]
        rw [hcut]
        have smq := same_upd (o := .lst ((rowf f (bgn f (i + 1) (L - (i + 1)) + (i + 1))).map sN)) hq
        intro x dx hx hdx hne
        have nqx : q ≠ x := fun z => by rw [← z, upd_same] at hx; cases hx
        have nqd : q ≠ dx := fun z => by rw [← z, upd_same] at hdx; cases hdx
        refine ⟨x, dx, q, bgn f (i + 1) (L - (i + 1)), i + 1, rowf f (bgn f (i + 1) (L - (i + 1)) + (i + 1)), by rw [ei]; rfl, upd_same, by rw [upd_ne nqx, upd_ne nqd]; exact upd_same, by unfold rowf; simp, by omega, by omega, ?_, ?_, fun H' hT hs => ⟨rfl, ?_⟩⟩
        · intro n hn
          unfold rowf at hn
          obtain ⟨j, _, rfl⟩ := List.mem_map.mp hn
          exact hf j
        · unfold rowf
          rw [List.getElem?_map, List.getElem?_range (by omega)]
          show some (f 0) = some 0
          rw [hf0]
        · have sm2 := same_upd3 (o := .ins (kTable K) dx []) (same_upd3 (o := .own x) smq hdx) (by rw [upd_ne (Ne.symm hne)]; exact hx)
          refine k1 x (i + 1) H' (fun b o e => hs b o (fun z => ?_) (sm2 _ _ e)) (smq.free hx) (by omega) (by omega) hle hT
          rw [z, smq.free hx] at e
          cases e
      · refine ⟨_, _, rfl, rfl, fun p h1 h2 h3 => ?_⟩
        by_cases hp : p = i + 1
        · subst hp
          exact hgt (decide_eq_true (by omega))
        · exact hno p h1 (by omega) h3
    · rintro σ H' ⟨v, v', rfl, rfl, hno⟩
      exact k2 hno _ (Same.refl _)
/-! ### table_of -/
def spTabOf (K : PySem.W.Frag) : Sp := fun vs H Q _ => ∃ (b : Addr) (rs : List Rl), vs = [.ref b, .int 1000] ∧ BookAt K H b rs ∧ ∀ t H' fn, Same H H' → H t = none → TableAt K H' t fn → (∀ n, n < 16 → fn n = g rs n) → Q (.ref t) H'
theorem c_min {X : Cx} (hc : X.calm = true) : CallR X (.builtin "min") (fun xs H Q => ∃ i j : Nat, xs = [sN i, sN j] ∧ Q (sN (min i j)) H) := by
  intro pins s σ H xs us Q I r h
  obtain ⟨i, j, e, q⟩ := h
  refine call_min2 hc pins s σ H xs us Q I r ⟨i, j, e, ?_⟩
  have : (if (j : Int) < (i : Int) then (j : Int) else (i : Int)) = ((min i j : Nat) : Int) := by
    split <;> omega
  rw [this]
  exact q
theorem row_rowf (rs : List Rl) (k : Nat) : rowG rs k = rowf (g rs) k := rowG_eq rs k
theorem g_zero {rs : List Rl} (o : ∀ r ∈ rs, r.Ok) : g rs 0 = 0 := by
  rw [g_eq o]
  have : leftsOf rs 0 = [] := by
    cases e : leftsOf rs 0 with
    | nil => rfl
    | cons a l => exact absurd (lefts_len o a (by rw [e]; exact List.mem_cons_self)) (Nat.not_lt_zero _)
  rw [this]
  exact mex_unique (mex_spec _) ⟨by simp, fun x h => absurd h (Nat.not_lt_zero _)⟩
theorem ok_table_of0 (T : Txt K mg) : F0 PP w K mg base 8 (a_table_of K) (spTabOf K) := by
  have S : FnScope ["book", "most", "bound", "found", "far", "table"] ["book", "most"] (defScope s_table_of) := ⟨rfl, rfl, rfl, by decide +kernel, rfl, by decide +kernel, by decide +kernel⟩
  obtain ⟨fd, F⟩ := T.f_table_of
  have hb : ∃ ds, Vals ([V.int 1000].drop 1) ds ∧ Binds K fd ["book", "most"] ds :=
    F.binds1 2 1 (by simp) rfl (fun T kV doc pm an cdv ct us its hu hi => match us, its, hu, hi with | [a, b], [x], _, _ => ⟨_, rfl, rfl⟩)
  obtain ⟨ds, hd, bb⟩ := hb
  have G : FnOk PP w K mg base CX0 8 (a_table_of K) fd ["book", "most"] (spTabOf K) := by
    refine F.ok S (fun vs H Q E h => ?_) (fun cdv A outer s H vs Q E hr h => ?_)
    · obtain ⟨b, rs, rfl, _⟩ := h; rfl
    · obtain ⟨b, rs, rfl, hB, k⟩ := h
      have nd := S.nd
      obtain ⟨tk, hk⟩ := T.k_MOST_PARTS
      obtain ⟨tk2, hk2⟩ := T.k_FIRST_BOUND
      refine ⟨_, PSs.nox (pss_cons (ps_if (pt_not (pt_val (c_call (ok_is_integer T) (hr.mono (by decide)) T.g_is_integer T.f_is_integer.kp (pa_cons (pv 1) (pa_cons pe_int (pa_cons (pe_glob (v := .int 1000) rfl hk ⟨_, rfl⟩) pa_nil)))))) (pss_one ps_never) pss_nil)
        (pss_cons (ps_par (i := 2) (j := 3) rfl nd rfl rfl (by decide) rfl rfl (pa_cons (pe_callB (c_min rfl) (by rfl) T.z_min boot_min (pa_cons (pe_glob (v := .int 16) rfl hk2 ⟨_, rfl⟩) (pa_cons (pe_callTy call_int1 (by rfl) T.z_int boot_int (pa_cons (pv 1) pa_nil)) pa_nil))) (pa_cons (pe_lst pa_nil) pa_nil)) (by rfl))
        (pss_one (ps_while PassesOwn.never (pt_m (pt_val pe_bl))
          (pss_cons (ps_set (i := 4) nd rfl (.inl rfl) (pe_op op_add (pe_callB (c_max rfl) (by rfl) T.z_max boot_max (pa_cons (pe_callTy call_int1 (by rfl) T.z_int boot_int (pa_cons (pe_fld (pv 0) rfl) pa_nil)) (pa_cons (pe_callTy call_int1 (by rfl) T.z_int boot_int (pa_cons (pe_op op_add (pv 2) (pe_fld (pv 0) rfl)) pa_nil)) pa_nil))) (pe_op op_mul (pv 2) (pe_fld (pv 0) rfl))))
          (pss_cons (ps_set (i := 3) nd rfl (.inl rfl) (c_call (ok_grown T) hr T.g_grown T.f_grown.kp (pa_cons (pv 0) (pa_cons (pv 3) (pa_cons (pv 4) pa_nil)))))
          (pss_cons (ps_set (i := 5) nd rfl (.inl rfl) (c_call (ok_table_in T) (hr.mono (by decide)) T.g_table_in T.f_table_in.kp (pa_cons (pv 3) (pa_cons (pv 2) pa_nil))))
          (pss_cons (ps_if (pt_cmp (pc_notN (pv 5)) (nomark _)) (pss_one (ps_ret (pv 5))) pss_nil)
          (pss_cons (ps_if (pt_cmpR op_eq (pv 2) (pv 1) (nomark _)) (pss_one ps_never) pss_nil)
          (pss_one (ps_set (i := 2) nd rfl (.inl rfl) (pe_callB (c_min rfl) (by rfl) T.z_min boot_min (pa_cons (pe_op op_mul pe_int (pv 2)) (pa_cons (pe_callTy call_int1 (by rfl) T.z_int boot_int (pa_cons (pv 1) pa_nil)) pa_nil)))))))))))))), ?_⟩
      have hok := hB.ok
      have hfew := hB.few
      have hp1 := hB
      obtain ⟨dx, t0, us, qs, m, st, re, hbk, _, _, _, _, B⟩ := hp1
      have hm6 : m ≤ 6 := Nat.le_of_dvd (by decide) B.m6
      have hm1 := B.m1
      have hst := B.st5
      have hre := B.re3
      refine ⟨_, rfl, _, _, _, rfl, _, rfl, ?_⟩
      rw [bd (by omega) (by omega)]
      refine iteF ?_
      refine ⟨_, rfl, .inl ⟨_, rfl, 16, 1000, rfl, Nat.zero_le _, fun l hl => ⟨_, _, rfl, ?_⟩⟩⟩
      refine while_m (fun σ' H' => ∃ (e k : Nat) (l : Addr) (v v' : Option V), σ' = [some (.ref b), some (.int 1000), some (sN (16 * 4 ^ e)), some (.ref l), v, v'] ∧ e ≤ 2 ∧ Same H H' ∧ H' l = some (.lst ((rowG rs k).map sN)) ∧ k ≤ max st (16 * 4 ^ e + re) + 16 * 4 ^ e * m)
        (fun σ' _ => match σ' with | [_, _, some (.int z), _, _, _] => 1000 - z.toNat | _ => 0) ⟨0, 0, l, none, none, rfl, by omega, same_upd hl, upd_same, Nat.zero_le _⟩ ?_
      rintro σ' H' ⟨e, kk, l, v, v', rfl, he, sm, hl', hkk⟩
      refine ⟨_, rfl, iteT ?_⟩
      generalize hbd : 16 * 4 ^ e = bound at *
      have hbound : bound = 16 ∨ bound = 64 ∨ bound = 256 := by
        have : e = 0 ∨ e = 1 ∨ e = 2 := by omega
        rcases this with h | h | h <;> subst h <;> simp at hbd <;> omega
      have hbk' := sm _ _ hbk
      have hmul : bound * m ≤ 256 * 6 := Nat.mul_le_mul (by omega) hm6
      have hmul1 : bound * 1 ≤ bound * m := Nat.mul_le_mul_left _ hm1
      refine ⟨_, rfl, b, _, dx, _, _, rfl, hbk', T.c_Book, T.n_Book_start, rfl, .inl ⟨_, rfl, ?_⟩⟩
      refine ⟨_, rfl, _, rfl, b, _, dx, _, _, rfl, hbk', T.c_Book, T.n_Book_reach, rfl, _, _, rfl, rfl, .inl ⟨_, rfl, st, bound + re, rfl, ?_⟩⟩
      refine ⟨_, rfl, _, rfl, b, _, dx, _, _, rfl, hbk', T.c_Book, T.n_Book_modulus, rfl, _, _, rfl, rfl, .inl ⟨by omega, by omega⟩, _, _, rfl, rfl, ?_⟩
      refine ⟨_, rfl, _, rfl, _, rfl, b, l, rs, kk, max st (bound + re) + bound * m, rfl, hB.kp (GF.Same.kp sm), hl', by omega, by omega, fun l2 H2 sm2 _ hl2 => ?_⟩
      have smA := sm.trans sm2
      rw [row_rowf] at hl2
      refine ⟨_, rfl, _, rfl, l2, g rs, max st (bound + re) + bound * m, bound, rfl, hl2, by omega, by omega, by omega, fun n => Nat.le_trans (g_two hok hfew n) (by decide), g_zero hok, fun t p H3 sm3 ft p1 p2 hle hT => ?_, fun hno H3 sm3 => ?_⟩
      · refine ⟨_, rfl, true, rfl, iteT ⟨_, rfl, ?_⟩⟩
        refine k t H3 _ (smA.trans sm3) (smA.free ft) hT fun n hn => ?_
        refine tab_row p1 (by have := bgn_le (g rs) p (max st (bound + re) + bound * m - p); omega) (fun j h1 h2 => bgn_spec _ _ _ j h1 h2) (by omega)
      · refine ⟨_, rfl, false, rfl, iteF ?_⟩
        have hne : bound ≠ 256 := by
          rintro rfl
          obtain ⟨n, p, hp, hnp, hper⟩ := period B hfew
          refine hno p hp (by omega) ?_
          have := bgn_small (g rs) p n (max st (256 + re) + 256 * m - p) (by omega) fun j h1 _ => (hper j h1).symm
          omega
        refine ⟨_, rfl, _, rfl, rfl, _, rfl, ?_⟩
        refine ite2 (fun h => ?_) (fun _ => ?_)
        · exfalso
          have h := vint.mp (of_decide_eq_true h)
          omega
        · have e4 : (4 : Int) * (bound : Int) = ((4 * bound : Nat) : Int) := by omega
          refine ⟨_, rfl, _, _, rfl, rfl, .inl ⟨by decide, by decide⟩, _, rfl, .inl ⟨_, rfl, 4 * bound, 1000, ?_, ?_⟩⟩
          · show [V.int ((4 : Int) * (bound : Int)), V.int 1000] = _
            rw [e4]
            rfl
          · have hmin : min (4 * bound) 1000 = 16 * 4 ^ (e + 1) := by rw [Nat.pow_succ]; omega
            have he1 : e ≤ 1 := by
              rcases Nat.lt_or_ge e 2 with q | q
              · omega
              · exfalso
                have : e = 2 := by omega
                subst this
                simp at hbd
                omega
            rw [hmin]
            refine ⟨⟨e + 1, max st (bound + re) + bound * m, l2, _, _, rfl, by omega, smA.trans sm3, by rw [row_rowf]; exact sm3 _ _ hl2, ?_⟩, ?_⟩
            · have hp4 : 16 * 4 ^ (e + 1) = 4 * bound := by rw [Nat.pow_succ]; omega
              rw [hp4]
              have : bound * m ≤ 4 * bound * m := Nat.mul_le_mul_right _ (by omega)
              omega
            · show 1000 - (((16 * 4 ^ (e + 1) : Nat) : Int)).toNat < 1000 - ((bound : Int)).toNat
              omega
  exact (G.raw bb hd).imp fun vs H Q E h => by
    have e : vs ++ [V.int 1000].drop 1 = vs := by simp
    rw [e]
    exact h
end
end RW
end

/-! ## F12 -/
section
set_option Elab.async false
set_option linter.all false
set_option maxRecDepth 100000
set_option maxHeartbeats 4000000
namespace RW
open PySem PySem.Spec PyProof.Rows L2
section
variable {w : World} {K : PySem.W.Frag} {mg : Str → Option Value} {base : Heap}
/-! ### as_table, __call__ -/
def spAsTab (K : PySem.W.Frag) : Sp := fun vs H Q _ => ∃ (b : Addr) (rs : List Rl), vs = [.ref b] ∧ BookAt K H b rs ∧ ∀ t H' fn, Same H H' → H t = none → TableAt K H' t fn → (∀ n, n < 16 → fn n = g rs n) → Q (.ref t) H'
theorem ok_as_table (T : Txt K mg) : F0 PP w K mg base 9 (a_Book_as_table K) (spAsTab K) := by
  have S : FnScope ["self", "most"] ["self", "most"] (defScope s_Book_as_table) := ⟨rfl, rfl, rfl, by decide +kernel, rfl, by decide +kernel, by decide +kernel⟩
  obtain ⟨fd, F⟩ := T.f_Book_as_table
  have hb : ∃ ds, Vals ([V.int 1000].drop 0) ds ∧ Binds K fd ["self", "most"] ds :=
    F.binds1 1 0 (by simp) rfl (fun T kV doc pm an cdv ct us its hu hi => match us, its, hu, hi with | [a], [x], _, _ => ⟨_, rfl, rfl⟩)
  obtain ⟨ds, hd, bb⟩ := hb
  have G : FnOk PP w K mg base CX0 9 (a_Book_as_table K) fd ["self", "most"] (spTabOf K) := by
    refine F.ok S (fun vs H Q E h => ?_) (fun cdv A outer s H vs Q E hr h => ?_)
    · obtain ⟨b, rs, rfl, _⟩ := h; rfl
    · obtain ⟨b, rs, rfl, hB, k⟩ := h
      have nd := S.nd
      refine ⟨_, PSs.nox (pss_one (ps_ret (c_call (ok_table_of0 T) hr T.g_table_of T.f_table_of.kp (pa_cons (pv 0) (pa_cons (pv 1) pa_nil))))), ?_⟩
      refine ⟨_, rfl, _, rfl, ?_⟩
      exact ⟨b, rs, rfl, hB, k⟩
  exact (G.raw bb hd).imp fun vs H Q E h => by
    obtain ⟨b, rs, rfl, hB, k⟩ := h
    exact ⟨b, rs, rfl, hB, k⟩
def spBCall (K : PySem.W.Frag) : Sp := fun vs H Q _ => ∃ (b : Addr) (rs : List Rl) (n : Nat), vs = [.ref b, sN n] ∧ BookAt K H b rs ∧ n < 16 ∧ ∀ H', Same H H' → Q (sN (g rs n)) H'
theorem ok_bcall (T : Txt K mg) : F0 PP w K mg base 10 (a_Book_call K) (spBCall K) := by
  have S : FnScope ["self", "n"] ["self", "n"] (defScope s_Book_call) := ⟨rfl, rfl, rfl, by decide +kernel, rfl, by decide +kernel, by decide +kernel⟩
  refine fd_ok T.f_Book_call S (fun vs H Q E h => ?_) (fun _ _ _ _ _ _ us hl => match us, hl with | [_, _], _ => rfl) (fun cdv A outer s H vs Q E hr h => ?_)
  · obtain ⟨b, rs, n, rfl, _⟩ := h; rfl
  · obtain ⟨b, rs, n, rfl, hB, hn, k⟩ := h
    have hnm : (n : Int) ≤ heapMax := Int.le_trans (by omega : (n : Int) ≤ 16) (by decide)
    refine ⟨_, pss_cons (ps_expr (c_call (ok_need_heap T) (hr.mono (by decide)) T.g_need_heap T.f_need_heap.kp (pa_cons (pv 1) pa_nil)))
      (pss_one (ps_ret (c_getitem T.m_Table_getitem T.fi_Table_getitem (ok_table_get T) (hr.mono (by decide)) (c_meth0 (pv 0) T.c_Book T.m_Book_as_table (ok_as_table T) hr) (pv 1)))), ?_⟩
    refine ⟨_, rfl, _, rfl, by omega, hnm, ?_⟩
    have hp1 := hB
    obtain ⟨dx, t0, us, qs, m, st, re, hbk, _⟩ := hp1
    refine ⟨_, rfl, b, dx, _, rfl, hbk, rfl, b, rs, rfl, hB, fun t H' fn sm ft hT he => ?_⟩
    obtain ⟨dt, tt, ah, ag, hp, _⟩ := id hT
    refine ⟨_, rfl, t, dt, _, rfl, hp, t, n, fn, rfl, hnm, hT, ?_⟩
    rw [he n hn]
    exact k _ sm
end
end RW
end

/-! ## F13 -/
section
set_option Elab.async false
set_option linter.all false
set_option maxRecDepth 100000
set_option maxHeartbeats 4000000
namespace RW
open PySem PySem.Spec PyProof.Rows L2
section
variable {w : World} {K : PySem.W.Frag} {mg : Str → Option Value} {base : Heap}
theorem FD.fi {x qual : Str} {st : Stmt} {dvs : List V} {f : Addr} (h : FD K x qual st dvs f) : PySem.W.fnIn K f = true := by
  obtain ⟨fd, F⟩ := h
  obtain ⟨oc, od, dV, kV, doc, pm, an, cdv, ct, osl, rfl, lk, hcd, hD, hK⟩ := F.ex
  unfold PySem.W.fnIn
  rw [lk]
theorem tyI {H : Hp} {p C dx : Addr} {fs : List (Str × V)} (h : H p = some (.ins C dx fs)) (c : Cls K C) (t : TyF K C) : TyX K H (.ref p) (.ref C) := .base (.ins h c t.ha t.hn t.htk t.hm)
/-! ### piles' makers -/
structure Pl where
  pn : Bool
  n : Nat
  rs : List Rl
def Pl.cl (K : PySem.W.Frag) (q : Pl) : Addr := if q.pn then kPlain K else kPile K
def spLaid0 (K : PySem.W.Frag) : Sp := fun vs H Q _ => ∃ (p C dx : Addr) (n : Nat), vs = [.ref p, sN n] ∧ (n : Int) ≤ heapMax ∧ H p = some (.ins C dx []) ∧ Cls K C ∧ NoAttr K C "size" ∧ NoAttr K C "book" ∧
  Q .non (upd H p (.ins C dx [("size", sN n), ("book", .non)]))
theorem ok_laid0 (T : Txt K mg) : F0 PP w K mg base 4 (a_Laid_init K) (spLaid0 K) := by
  have S : FnScope ["self", "size"] ["self", "size"] (defScope s_Laid_init) := ⟨rfl, rfl, rfl, by decide +kernel, rfl, by decide +kernel, by decide +kernel⟩
  refine fd_ok T.f_Laid_init S (fun vs H Q E h => ?_) (fun _ _ _ _ _ _ us hl => match us, hl with | [_, _], _ => rfl) (fun cdv A outer s H vs Q E hr h => ?_)
  · obtain ⟨p, C, dx, n, rfl, _⟩ := h; rfl
  · obtain ⟨p, C, dx, n, rfl, hn, hp, c, n1, n2, k⟩ := h
    refine ⟨_, pss_cons (ps_expr (c_call (ok_need_heap T) hr T.g_need_heap T.f_need_heap.kp (pa_cons (pv 1) pa_nil)))
      (pss_cons (ps_fld (pv 0) (pv 1) rfl) (pss_one (ps_fld (pv 0) pe_non rfl))), ?_⟩
    refine ⟨_, rfl, _, rfl, by omega, hn, ?_⟩
    refine ⟨_, rfl, _, rfl, p, C, dx, _, rfl, hp, c, n1, by decide, ?_⟩
    refine ⟨_, rfl, p, C, dx, _, rfl, upd_same, c, n2, pl (by decide), ?_⟩
    rw [upd_upd]
    exact k
def spPile0 (K : PySem.W.Frag) : Sp := fun vs H Q _ => ∃ (p C dx b bd : Addr) (fs : List (Str × V)) (n : Nat), vs = [.ref p, sN n, .ref b] ∧ (n : Int) ≤ heapMax ∧ H p = some (.ins C dx []) ∧ (C = kPile K ∨ C = kPlain K) ∧ H b = some (.ins (kBook K) bd fs) ∧ b ≠ p ∧
  Q .non (upd H p (.ins C dx [("size", sN n), ("book", .ref b)]))
theorem ok_pile0 (T : Txt K mg) : F0 PP w K mg base 5 (a_Pile_init K) (spPile0 K) := by
  have S : ScS ["self", "size", "book"] ["self", "size", "book"] (defScope s_Pile_init) := ⟨rfl, rfl, rfl, by decide +kernel, rfl, by decide +kernel, by decide +kernel⟩
  refine fn_super (kG := 4) (k := 4) T.f_Pile_init S rfl rfl rfl rfl T.z_super (by decide +kernel) (by decide +kernel) T.op_ (fun _ _ _ _ _ _ us hl => match us, hl with | [_, _, _], _ => rfl) T.tf_Laid T.f_Laid_init.fi T.f_Laid_init.kp T.cl_Pile (ok_laid0 T) (fun vs H Q E h => ?_) (fun _ => rfl) (fun _ => rfl) (fun _ => rfl) (fun _ => rfl) (fun cda A outer s H vs Q E hr h => ?_)
  · obtain ⟨p, C, dx, b, bd, fs, n, rfl, _⟩ := h; rfl
  · obtain ⟨p, C, dx, b, bd, fs, n, rfl, hn, hp, hC, hb, hne, k⟩ := h
    have c : Cls K C := by rcases hC with rfl | rfl; exact T.c_Pile; exact T.c_Plain
    have n1 : NoAttr K C "size" := by rcases hC with rfl | rfl; exact T.n_Pile_size; exact T.n_Plain_size
    have n2 : NoAttr K C "book" := by rcases hC with rfl | rfl; exact T.n_Pile_book; exact T.n_Plain_book
    refine ⟨_, _, pa_cons (pv 1) pa_nil, pss_cons (ps_if (pt_not (pt_val (c_isC (pv 2) T.z_isinstance T.g_Book))) (pss_one ps_never) pss_nil) (pss_one (ps_fld (pv 0) (pv 2) rfl)), Nat.le_refl _, p, C, dx, [], [sN n, .ref b], rfl, hp, ?_, ?_, ?_⟩
    · rcases hC with rfl | rfl; exact T.mr_Pile_Pile; exact T.mr_Plain_Pile
    · rcases hC with rfl | rfl; exact T.up_Pile_Pile; exact T.up_Plain_Pile
    refine ⟨_, rfl, p, C, dx, n, rfl, hn, hp, c, n1, n2, ?_⟩
    refine ⟨_, rfl, _, true, tyI (by rw [upd_ne hne]; exact hb) T.c_Book T.ty_Book, T.ki_Book_Book, _, rfl, ?_⟩
    refine iteF ?_
    refine ⟨_, rfl, _, rfl, p, C, dx, _, rfl, upd_same, c, n2, by show 2 < 1000; decide, ?_⟩
    rw [upd_upd]
    exact k
/-- a pile at p -/
def PileAt (K : PySem.W.Frag) (H : Hp) (p : Addr) (q : Pl) : Prop := (q.n : Int) ≤ heapMax ∧ if q.pn then ∃ dx, H p = some (.ins (kPlain K) dx [("size", sN q.n), ("book", .non)]) else q.n < 16 ∧ ∃ dx b, H p = some (.ins (kPile K) dx [("size", sN q.n), ("book", .ref b)]) ∧ BookAt K H b q.rs
theorem PileAt.kp {H H' : Hp} {p : Addr} {q : Pl} (h : PileAt K H p q) (k : GF.Kp H H') : PileAt K H' p q := by
  obtain ⟨hn, h⟩ := h
  refine ⟨hn, ?_⟩
  split
  · rename_i e
    rw [if_pos e] at h
    obtain ⟨dx, h⟩ := h
    exact ⟨dx, kpi k h⟩
  · rename_i e
    rw [if_neg e] at h
    obtain ⟨h0, dx, b, h, hb⟩ := h
    exact ⟨h0, dx, b, kpi k h, hb.kp k⟩
def spPlain0 (K : PySem.W.Frag) : Sp := fun vs H Q _ => ∃ (p dx : Addr) (n : Nat), vs = [.ref p, sN n] ∧ (n : Int) ≤ heapMax ∧ H p = some (.ins (kPlain K) dx []) ∧
  ∀ H', SmX p H H' → H' p = some (.ins (kPlain K) dx [("size", sN n), ("book", .non)]) → Q .non H'
theorem ok_plain0 (T : Txt K mg) : F0 PP w K mg base 6 (a_Plain_init K) (spPlain0 K) := by
  have S : ScS ["self", "size"] ["self", "size"] (defScope s_Plain_init) := ⟨rfl, rfl, rfl, by decide +kernel, rfl, by decide +kernel, by decide +kernel⟩
  refine fn_super (kG := 5) (k := 5) T.f_Plain_init S rfl rfl rfl rfl T.z_super (by decide +kernel) (by decide +kernel) T.op_ (fun _ _ _ _ _ _ us hl => match us, hl with | [_, _], _ => rfl) T.tf_Pile ?_ T.f_Pile_init.kp T.cl_Plain (ok_pile0 T) (fun vs H Q E h => ?_) (fun _ => rfl) (fun _ => rfl) (fun _ => rfl) (fun _ => rfl) (fun cda A outer s H vs Q E hr h => ?_)
  · obtain ⟨⟨oc, od, kV, doc, pm, an, cda, ct, osl, lk, _⟩, _⟩ := T.f_Pile_init
    unfold PySem.W.fnIn
    rw [lk]
  · obtain ⟨p, dx, n, rfl, _⟩ := h; rfl
  · obtain ⟨p, dx, n, rfl, hn, hp, k⟩ := h
    refine ⟨_, _, pa_cons (pv 1) (pa_cons (c_make0 T.mk_Book (ok_book0 T) (hr.mono (by decide)) T.g_Book) pa_nil), pss_one (ps_fld (pv 0) pe_non rfl), Nat.le_refl _, p, kPlain K, dx, [], [sN n], rfl, hp, T.mr_Plain_Plain, T.up_Plain_Plain, ?_⟩
    refine ⟨_, rfl, ?_⟩
    intro x dy hx hdy hne
    have nxp : x ≠ p := (ne_of_none hp hx).symm
    have ndp : dy ≠ p := (ne_of_none hp hdy).symm
    refine ⟨[.ref x], [], rfl, rfl, Nat.zero_le _, fun tp htp => ?_⟩
    have ntx : tp ≠ x := fun z => by rw [z, upd_same] at htp; cases htp
    have ntp : tp ≠ p := fun z => by rw [z, upd_ne (Ne.symm nxp), upd_ne (Ne.symm ndp), hp] at htp; cases htp
    refine ⟨x, dy, tp, [], [], rfl, by rw [upd_ne (Ne.symm ntx)]; exact upd_same, upd_same, ⟨rfl, fun i r e => by simp at e⟩, by simp, fun H1 hB sm => ⟨rfl, ?_⟩⟩
    have sm0 : Same H (upd (upd (upd H dy (.own x)) x (.ins (kBook K) dy [])) tp (.tup [])) := same_upd3 (same_upd3 (same_upd hdy) (by rw [upd_ne (Ne.symm hne)]; exact hx)) htp
    have smA : SmX p H H1 := fun c o hc e => sm c o (fun z => by rw [z] at e; rw [hx] at e; cases e) (sm0 _ _ e)
    have hp1 : H1 p = some (.ins (kPlain K) dx []) := sm p _ (Ne.symm nxp) (sm0 _ _ hp)
    obtain ⟨bd, t0, us, qs, m, st, re, hbk, _⟩ := id hB
    refine ⟨p, kPlain K, dx, x, bd, _, n, rfl, hn, hp1, .inr rfl, hbk, nxp, ?_⟩
    refine ⟨_, rfl, p, _, dx, _, rfl, upd_same, T.c_Plain, T.n_Plain_book, by show 2 < 1000; decide, ?_⟩
    rw [upd_upd]
    exact k _ (smA.trans SmX.put) upd_same
end
end RW
end

/-! ## F14 -/
section
set_option Elab.async false
set_option linter.all false
set_option maxRecDepth 100000
set_option maxHeartbeats 4000000
namespace RW
open PySem PySem.Spec PyProof.Rows L2
/-! ### piles' deeds -/
abbrev pFs (n : Nat) (v : V) : List (Str × V) := [("size", sN n), ("book", v)]
theorem pile_plain {K : PySem.W.Frag} {H : Hp} {p : Addr} {q : Pl} (h : PileAt K H p q) (e : q.pn = true) : (q.n : Int) ≤ heapMax ∧ ∃ dx, H p = some (.ins (kPlain K) dx (pFs q.n .non)) := by
  obtain ⟨h1, h2⟩ := h
  rw [if_pos e] at h2
  exact ⟨h1, h2⟩
theorem pile_book {K : PySem.W.Frag} {H : Hp} {p : Addr} {q : Pl} (h : PileAt K H p q) (e : q.pn = false) : (q.n : Int) ≤ heapMax ∧ q.n < 16 ∧ ∃ dx b, H p = some (.ins (kPile K) dx (pFs q.n (.ref b))) ∧ BookAt K H b q.rs := by
  obtain ⟨h1, h2⟩ := h
  rw [if_neg (by rw [e]; exact Bool.false_ne_true)] at h2
  exact ⟨h1, h2⟩
theorem plain_at {K : PySem.W.Frag} {H : Hp} {p dx : Addr} {q : Pl} (e : q.pn = true) (hn : (q.n : Int) ≤ heapMax) (h : H p = some (.ins (kPlain K) dx (pFs q.n .non))) : PileAt K H p q := ⟨hn, by rw [if_pos e]; exact ⟨dx, h⟩⟩
theorem book_at {K : PySem.W.Frag} {H : Hp} {p dx b : Addr} {q : Pl} (e : q.pn = false) (hn : (q.n : Int) ≤ heapMax) (h16 : q.n < 16) (h : H p = some (.ins (kPile K) dx (pFs q.n (.ref b)))) (hb : BookAt K H b q.rs) : PileAt K H p q :=
  ⟨hn, by rw [if_neg (by rw [e]; exact Bool.false_ne_true)]; exact ⟨h16, dx, b, h, hb⟩⟩
def nums (q : Pl) : List Nat := if q.pn then List.range' 1 q.n else takesOf q.rs q.n
def wo (q : Pl) : Nat := if q.pn then q.n else g q.rs q.n
theorem PileAt.ok {K : PySem.W.Frag} {H : Hp} {p : Addr} {q : Pl} (h : PileAt K H p q) (e : q.pn = false) : ∀ r ∈ q.rs, r.Ok := by
  obtain ⟨_, _, _, _, _, hb⟩ := pile_book h e
  exact hb.ok
theorem takes_mem {rs : List Rl} {n k : Nat} (o : ∀ r ∈ rs, r.Ok) (h : k ∈ takesOf rs n) : 1 ≤ k ∧ k ≤ n := by
  unfold takesOf at h
  obtain ⟨a, ha, rfl⟩ := List.mem_map.mp h
  have := lefts_len o a (List.mem_reverse.mp ha)
  omega
theorem nums_mem {q : Pl} {k : Nat} (o : q.pn = false → ∀ r ∈ q.rs, r.Ok) (h : k ∈ nums q) : 1 ≤ k ∧ k ≤ q.n := by
  unfold nums at h
  split at h
  · rw [List.mem_range'] at h
    obtain ⟨i, hi, rfl⟩ := h
    omega
  · rename_i e
    exact takes_mem (o (by simpa using e)) h
theorem inN {k : Nat} {ns : List Nat} (h : k ∈ ns) : inV (sN k) (ns.map sN) = true := by
  unfold inV
  rw [List.any_eq_true]
  exact ⟨sN k, List.mem_map.mpr ⟨k, h, rfl⟩, by simp [eqV, sN]⟩
theorem flatN (ns : List Nat) : (ns.map sN).all flatV = true := by
  rw [List.all_eq_true]
  intro x h
  obtain ⟨n, _, rfl⟩ := List.mem_map.mp h
  rfl
/-! o.m(e, ..), the field m holds an instance that may be called -/
def tCallF (X : Cx) (C : Addr) (m : Str) (sp : Sp) (ta : TE) (t : TA) : TE := fun σ H Q => ta σ H fun x H1 => ∃ a D dx fs b, x = V.ref a ∧ H1 a = some (.ins D dx fs) ∧ Cls X.K D ∧ NoAttr X.K D m ∧ fs.lookup m = some (.ref b) ∧
  t σ H1 fun vs H2 => StX.InsC X H2 b C ∧ sp (V.ref b :: vs) H2 Q E0
theorem c_callF {X : Cx} {k : Nat} {g C : Addr} {sp : Sp} {m : Str} {o e : Expr} {es : List Expr} {ta : TE} {t : TA} {pos apos : Pos} {pl : Sem Bool} (he : PE X o ta) (c : StX.CallO X.K C g) (F : F0 X.prog X.w X.K X.mg X.base k g sp) (hr : Room k X.A) (ha : PA X (e :: es) t)
    (hst : starEach (e :: es) X.env = (false, eval e X.env) :: starEach es X.env := by rfl) (hpl : (backTo pos (starEach es X.env)).any (·.1) = false := by rfl)
    (ht : eval (.Call (.Attribute o m apos) (e :: es) [] pos) X.env = (do
      let ov ← eval o X.env
      standAt apos.atName
      let (f, first) ← holding [ov] (getMethod ov m pl)
      callWith pos f first (backTo pos (starEach (e :: es) X.env)) (backToKw pos (keywordEach [] X.env))) := by rfl) :
    PE X (.Call (.Attribute o m apos) (e :: es) [] pos) (tCallF X C m sp ta t) := by
  refine ⟨fun pins s σ H Q I h => ?_⟩
  refine PySem.W.methodCall_KW (pl := pl) (thn (he.run pins s σ H _ I h) fun u s1 ⟨x, H1, I1, rx, a, D, dx, fs, b, ex, ea, cD, nD, l, q⟩ => ?_) ht
  subst ex
  obtain rfl : u = Value.ref a := rx
  refine getmeth_fld I1 ea cD nD l fun u2 s2 I2 r2 => ?_
  obtain rfl : u2 = Value.ref b := r2
  refine StX.callO_with (thn (ha.run pos pins s2 σ H1 _ I2 q) fun us s3 ⟨vs, H2, I3, r, hi, q2⟩ => ?_) hst hpl
  obtain ⟨ox, od, J, hd⟩ := StX.insC_at I3 hi
  exact ⟨⟨C, ox, od, J, hd⟩, StX.run_callO c F hr pass0 I3 hi r q2⟩
section
variable {w : World} {K : PySem.W.Frag} {mg : Str → Option Value} {base : Heap}
/-- the like pile of another size -/
def spResz (K : PySem.W.Frag) (b : Bool) : Sp := fun vs H Q _ => ∃ (p : Addr) (q : Pl) (m : Nat), vs = [.ref p, sN m] ∧ PileAt K H p q ∧ q.pn = b ∧ (m : Int) ≤ heapMax ∧ (b = false → m < 16) ∧ ∀ x H', Same H H' → H x = none → PileAt K H' x { q with n := m } → Q (.ref x) H'
theorem ok_resized (T : Txt K mg) : F0 PP w K mg base 7 (a_Pile_resized K) (spResz K false) := by
  have S : FnScope ["self", "size"] ["self", "size"] (defScope s_Pile_resized) := ⟨rfl, rfl, rfl, by decide +kernel, rfl, by decide +kernel, by decide +kernel⟩
  refine fd_ok T.f_Pile_resized S (fun vs H Q E h => ?_) (fun _ _ _ _ _ _ us hl => match us, hl with | [_, _], _ => rfl) (fun cdv A outer s H vs Q E hr h => ?_)
  · obtain ⟨p, q, m, rfl, _⟩ := h; rfl
  · obtain ⟨p, q, m, rfl, hp, hb, hm, h16, k⟩ := h
    obtain ⟨_, _, dx, b, hp, hB⟩ := pile_book hp hb
    obtain ⟨bkd, t0, us, qs, m', st, re, hbk, _⟩ := id hB
    refine ⟨_, pss_one (ps_ret (c_make T.mk_Pile (ok_pile0 T) hr T.g_Pile (pa_cons (pv 1) (pa_cons (pe_fld (pv 0) rfl) pa_nil)))), ?_⟩
    refine ⟨_, rfl, _, rfl, p, _, dx, _, _, rfl, hp, T.c_Pile, T.n_Pile_book, rfl, ?_⟩
    intro x dy hx hdy hne
    have nbx : b ≠ x := (ne_of_none hbk hx)
    have sm : Same H (upd (upd H dy (.own x)) x (.ins (kPile K) dy [])) := same_upd3 (same_upd hdy) (by rw [upd_ne (Ne.symm hne)]; exact hx)
    refine ⟨x, kPile K, dy, b, bkd, _, m, rfl, hm, upd_same, .inl rfl, sm _ _ hbk, nbx, rfl, ?_⟩
    rw [upd_upd]
    have sm2 : Same H (upd (upd H dy (.own x)) x (.ins (kPile K) dy (pFs m (.ref b)))) := same_upd3 (same_upd hdy) (by rw [upd_ne (Ne.symm hne)]; exact hx)
    exact k x _ sm2 hx (book_at (q := { q with n := m }) hb hm (h16 rfl) upd_same (hB.kp (GF.Same.kp sm2)))
theorem ok_plain_resized (T : Txt K mg) : F0 PP w K mg base 8 (a_Plain_resized K) (spResz K true) := by
  have S : FnScope ["self", "size"] ["self", "size"] (defScope s_Plain_resized) := ⟨rfl, rfl, rfl, by decide +kernel, rfl, by decide +kernel, by decide +kernel⟩
  refine fd_ok T.f_Plain_resized S (fun vs H Q E h => ?_) (fun _ _ _ _ _ _ us hl => match us, hl with | [_, _], _ => rfl) (fun cdv A outer s H vs Q E hr h => ?_)
  · obtain ⟨p, q, m, rfl, _⟩ := h; rfl
  · obtain ⟨p, q, m, rfl, hp, hb, hm, h16, k⟩ := h
    refine ⟨_, pss_one (ps_ret (c_make T.mk_Plain (ok_plain0 T) hr T.g_Plain (pa_cons (pv 1) pa_nil))), ?_⟩
    refine ⟨_, rfl, ?_⟩
    intro x dy hx hdy hne
    have sm : Same H (upd (upd H dy (.own x)) x (.ins (kPlain K) dy [])) := same_upd3 (same_upd hdy) (by rw [upd_ne (Ne.symm hne)]; exact hx)
    refine ⟨x, dy, m, rfl, hm, upd_same, fun H' sx hx' => ⟨rfl, ?_⟩⟩
    exact k x H' (fun b o e => sx b o (ne_of_none e hx) (sm _ _ e)) hx (plain_at (q := { q with n := m }) hb hm hx')
/-! worths -/
def spWo (K : PySem.W.Frag) (b : Bool) : Sp := fun vs H Q _ => ∃ (p : Addr) (q : Pl), vs = [.ref p] ∧ PileAt K H p q ∧ q.pn = b ∧ ∀ H', Same H H' → Q (sN (wo q)) H'
theorem ok_pile_worth (T : Txt K mg) : F0 PP w K mg base 11 (a_Pile_its_worth K) (spWo K false) := by
  have S : FnScope ["self"] ["self"] (defScope s_Pile_its_worth) := ⟨rfl, rfl, rfl, by decide +kernel, rfl, by decide +kernel, by decide +kernel⟩
  refine fd_ok T.f_Pile_its_worth S (fun vs H Q E h => ?_) (fun _ _ _ _ _ _ us hl => match us, hl with | [_], _ => rfl) (fun cdv A outer s H vs Q E hr h => ?_)
  · obtain ⟨p, q, rfl, _⟩ := h; rfl
  · obtain ⟨p, q, rfl, hp, hb, k⟩ := h
    obtain ⟨_, h16, dx, b, hp, hB⟩ := pile_book hp hb
    obtain ⟨bkd, t0, us, qs, m', st, re, hbk, _⟩ := id hB
    refine ⟨_, pss_one (ps_ret (c_callF (pv 0) ⟨T.m_Book_call.at_, T.m_Book_call.fn, T.fi_Book_call⟩ (ok_bcall T) hr (pa_cons (pe_fld (pv 0) rfl) pa_nil))), ?_⟩
    refine ⟨_, rfl, p, _, dx, _, b, rfl, hp, T.c_Pile, T.n_Pile_book, rfl, _, rfl, p, _, dx, _, _, rfl, hp, T.c_Pile, T.n_Pile_size, rfl, .inr ⟨bkd, _, hbk⟩, b, q.rs, q.n, rfl, hB, h16, fun H' sm => ?_⟩
    have e : wo q = g q.rs q.n := by unfold wo; rw [hb]; rfl
    rw [← e]
    exact k H' sm
theorem ok_plain_worth (T : Txt K mg) : F0 PP w K mg base 1 (a_Plain_its_worth K) (spWo K true) := by
  have S : FnScope ["self"] ["self"] (defScope s_Plain_its_worth) := ⟨rfl, rfl, rfl, by decide +kernel, rfl, by decide +kernel, by decide +kernel⟩
  refine fd_ok T.f_Plain_its_worth S (fun vs H Q E h => ?_) (fun _ _ _ _ _ _ us hl => match us, hl with | [_], _ => rfl) (fun cdv A outer s H vs Q E hr h => ?_)
  · obtain ⟨p, q, rfl, _⟩ := h; rfl
  · obtain ⟨p, q, rfl, hp, hb, k⟩ := h
    obtain ⟨_, dx, hp⟩ := pile_plain hp hb
    refine ⟨_, pss_one (ps_ret (pe_fld (pv 0) rfl)), ?_⟩
    refine ⟨_, rfl, p, _, dx, _, _, rfl, hp, T.c_Plain, T.n_Plain_size, rfl, ?_⟩
    have e : wo q = q.n := by unfold wo; rw [hb]; rfl
    rw [← e]
    exact k H (Same.refl _)
/-! lets -/
def spLets (K : PySem.W.Frag) (b : Bool) : Sp := fun vs H Q _ => ∃ (p : Addr) (q : Pl) (m : Nat), vs = [.ref p, sN m] ∧ PileAt K H p q ∧ q.pn = b ∧ m ∈ nums q ∧ ∀ H', Same H H' → Q (.bl true) H'
theorem ok_lets (T : Txt K mg) : F0 PP w K mg base 8 (a_Pile_lets K) (spLets K false) := by
  have S : FnScope ["self", "k"] ["self", "k"] (defScope s_Pile_lets) := ⟨rfl, rfl, rfl, by decide +kernel, rfl, by decide +kernel, by decide +kernel⟩
  refine fd_ok T.f_Pile_lets S (fun vs H Q E h => ?_) (fun _ _ _ _ _ _ us hl => match us, hl with | [_, _], _ => rfl) (fun cdv A outer s H vs Q E hr h => ?_)
  · obtain ⟨p, q, m, rfl, _⟩ := h; rfl
  · obtain ⟨p, q, m, rfl, hpq, hb, hm, k⟩ := h
    have hmn := nums_mem (fun e => hpq.ok e) hm
    have hm2 : m ∈ takesOf q.rs q.n := by unfold nums at hm; rw [hb] at hm; exact hm
    obtain ⟨hmax, h16, dx, b, hp, hB⟩ := pile_book hpq hb
    obtain ⟨bkd, t0, us, qs, m', st, re, hbk, _⟩ := id hB
    refine ⟨_, pss_one (ps_ret (pe_and (c_call (ok_is_integer T) (hr.mono (by decide)) T.g_is_integer T.f_is_integer.kp (pa_cons (pv 1) (pa_cons pe_int (pa_cons (pe_fld (pv 0) rfl) pa_nil))))
      (pe_one (pe_cmpR op_in_seq (pv 1) (c_meth (pe_fld (pv 0) rfl) T.c_Book T.m_Book_takes (ok_takes T) hr (pa_cons (pe_fld (pv 0) rfl) pa_nil)) (by rfl))))), ?_⟩
    refine ⟨_, rfl, _, rfl, p, _, dx, _, _, rfl, hp, T.c_Pile, T.n_Pile_size, rfl, _, _, _, rfl, ?_⟩
    rw [bd (by omega) (by omega)]
    refine ⟨true, rfl, ?_⟩
    refine iteT ?_
    refine ⟨_, rfl, _, rfl, p, _, dx, _, _, rfl, hp, T.c_Pile, T.n_Pile_book, rfl, b, bkd, _, rfl, hbk, rfl, _, rfl, p, _, dx, _, _, rfl, hp, T.c_Pile, T.n_Pile_size, rfl, ?_⟩
    refine ⟨b, q.rs, q.n, rfl, hmax, by omega, hB, fun t H' sm ft ht => ?_⟩
    refine ⟨t, _, rfl, .inr (.inl (.inl ht)), rfl, flatN _, ?_⟩
    rw [inN hm2]
    exact k H' sm
theorem ok_plain_lets (T : Txt K mg) : F0 PP w K mg base 2 (a_Plain_lets K) (spLets K true) := by
  have S : FnScope ["self", "k"] ["self", "k"] (defScope s_Plain_lets) := ⟨rfl, rfl, rfl, by decide +kernel, rfl, by decide +kernel, by decide +kernel⟩
  refine fd_ok T.f_Plain_lets S (fun vs H Q E h => ?_) (fun _ _ _ _ _ _ us hl => match us, hl with | [_, _], _ => rfl) (fun cdv A outer s H vs Q E hr h => ?_)
  · obtain ⟨p, q, m, rfl, _⟩ := h; rfl
  · obtain ⟨p, q, m, rfl, hpq, hb, hm, k⟩ := h
    have hmn := nums_mem (fun e => hpq.ok e) hm
    obtain ⟨_, dx, hp⟩ := pile_plain hpq hb
    refine ⟨_, pss_one (ps_ret (c_call (ok_is_integer T) hr T.g_is_integer T.f_is_integer.kp (pa_cons (pv 1) (pa_cons pe_int (pa_cons (pe_fld (pv 0) rfl) pa_nil))))), ?_⟩
    refine ⟨_, rfl, _, rfl, p, _, dx, _, _, rfl, hp, T.c_Plain, T.n_Plain_size, rfl, _, _, _, rfl, ?_⟩
    rw [bd (by omega) (by omega)]
    exact k H (Same.refl _)
/-! pile - k -/
def spSub (K : PySem.W.Frag) : Sp := fun vs H Q _ => ∃ (p : Addr) (q : Pl) (m : Nat), vs = [.ref p, sN m] ∧ PileAt K H p q ∧ m ∈ nums q ∧ ∀ x H', Same H H' → H x = none → PileAt K H' x { q with n := q.n - m } → Q (.ref x) H'
theorem ok_sub (T : Txt K mg) : F0 PP w K mg base 9 (a_Pile_sub K) (spSub K) := by
  have S : FnScope ["self", "k"] ["self", "k"] (defScope s_Pile_sub) := ⟨rfl, rfl, rfl, by decide +kernel, rfl, by decide +kernel, by decide +kernel⟩
  refine fd_ok T.f_Pile_sub S (fun vs H Q E h => ?_) (fun _ _ _ _ _ _ us hl => match us, hl with | [_, _], _ => rfl) (fun cdv A outer s H vs Q E hr h => ?_)
  · obtain ⟨p, q, m, rfl, _⟩ := h; rfl
  · obtain ⟨p, q, m, rfl, hpq, hm, k⟩ := h
    have hmn := nums_mem (fun e => hpq.ok e) hm
    have hnum : V.int ((q.n : Int) - (m : Int)) = sN (q.n - m) := by unfold sN; congr 1; omega
    refine ⟨_, pss_cons (ps_if (pt_not (pt_val (c_meth2 (pv 0) T.c_Pile T.m_Pile_lets (ok_lets T) hr T.c_Plain T.m_Plain_lets (ok_plain_lets T) (hr.mono (by decide)) (pa_cons (pv 1) pa_nil)))) (pss_one ps_never) pss_nil)
      (pss_one (ps_ret (c_meth2 (pv 0) T.c_Pile T.m_Pile_resized (ok_resized T) (hr.mono (by decide)) T.c_Plain T.m_Plain_resized (ok_plain_resized T) hr (pa_cons (pe_op op_sub (pe_fld (pv 0) rfl) (pv 1)) pa_nil)))), ?_⟩
    cases hb : q.pn with
    | true =>
      obtain ⟨hmax, dx, hp⟩ := pile_plain hpq hb
      refine ⟨_, rfl, p, dx, _, rfl, rfl, .inr ⟨hp, _, rfl, p, q, m, rfl, hpq, hb, hm, fun H1 sm1 => ?_⟩⟩
      refine ⟨true, rfl, ?_⟩
      refine iteF ?_
      have hp1 := sm1 _ _ hp
      refine ⟨_, rfl, p, dx, _, rfl, rfl, .inr ⟨hp1, _, rfl, p, _, dx, _, _, rfl, hp1, T.c_Plain, T.n_Plain_size, rfl, _, rfl, _, _, rfl, rfl, p, q, q.n - m, ?_, hpq.kp (GF.Same.kp sm1), hb, by omega, (fun z => by cases z), fun x H' sm2 fx hx => k x H' (sm1.trans sm2) (sm1.free fx) hx⟩⟩
      rw [← hnum]
    | false =>
      obtain ⟨hmax, h16, dx, b, hp, hB⟩ := pile_book hpq hb
      refine ⟨_, rfl, p, dx, _, rfl, rfl, .inl ⟨hp, _, rfl, p, q, m, rfl, hpq, hb, hm, fun H1 sm1 => ?_⟩⟩
      refine ⟨true, rfl, ?_⟩
      refine iteF ?_
      have hp1 := sm1 _ _ hp
      refine ⟨_, rfl, p, dx, _, rfl, rfl, .inl ⟨hp1, _, rfl, p, _, dx, _, _, rfl, hp1, T.c_Pile, T.n_Pile_size, rfl, _, rfl, _, _, rfl, rfl, p, q, q.n - m, ?_, hpq.kp (GF.Same.kp sm1), hb, by omega, (fun _ => by omega), fun x H' sm2 fx hx => k x H' (sm1.trans sm2) (sm1.free fx) hx⟩⟩
      rw [← hnum]
end
end RW
end

/-! ## F15 -/
section
set_option Elab.async false
set_option linter.all false
set_option maxRecDepth 100000
set_option maxHeartbeats 4000000
namespace RW
open PySem PySem.Spec PyProof.Rows L2
/-! ### positions -/
theorem xor_and (a : Nat) : ∀ b : Nat, (a ^^^ b) + 2 * (a &&& b) = a + b := by
  induction a using Nat.strongRecOn with
  | ind a ih =>
    intro b
    by_cases h : a = 0
    · subst h; simp
    · have h1 := ih (a / 2) (by omega) (b / 2)
      have e1 : (a ^^^ b) / 2 = a / 2 ^^^ b / 2 := Nat.xor_div_two
      have e2 : (a &&& b) / 2 = a / 2 &&& b / 2 := Nat.and_div_two
      have e3 : (a ^^^ b) % 2 = 1 ↔ ¬(a % 2 = 1 ↔ b % 2 = 1) := Nat.xor_mod_two_eq_one
      have e4 : (a &&& b) % 2 = 1 ↔ a % 2 = 1 ∧ b % 2 = 1 := Nat.and_mod_two_eq_one
      omega
theorem bitXor_nat (a b : Nat) : Builtin.bitXor (a : Int) (b : Int) = ((a ^^^ b : Nat) : Int) := by
  rw [bitXor_and]
  have : Builtin.bitAnd (a : Int) (b : Int) = ((a &&& b : Nat) : Int) := by
    have h1 : decide (0 ≤ (a : Int)) = true := decide_eq_true (by omega)
    have h2 : decide (0 ≤ (b : Int)) = true := decide_eq_true (by omega)
    unfold Builtin.bitAnd
    rw [h1, h2]
    rfl
  rw [this]
  have := xor_and a b
  omega
def PilesAt (K : PySem.W.Frag) (H : Hp) (vs : List V) (qs : List Pl) : Prop := vs.length = qs.length ∧ ∀ (i : Nat) (q : Pl), qs[i]? = some q → ∃ p, vs[i]? = some (.ref p) ∧ PileAt K H p q
theorem PilesAt.kp {K : PySem.W.Frag} {H H' : Hp} {vs : List V} {qs : List Pl} (h : PilesAt K H vs qs) (k : GF.Kp H H') : PilesAt K H' vs qs := ⟨h.1, fun i r e => let ⟨p, e1, e2⟩ := h.2 i r e; ⟨p, e1, e2.kp k⟩⟩
theorem PilesAt.at_ {K : PySem.W.Frag} {H : Hp} {vs : List V} {qs : List Pl} (h : PilesAt K H vs qs) {i : Nat} {x : V} (e : vs[i]? = some x) : ∃ p q, qs[i]? = some q ∧ x = .ref p ∧ PileAt K H p q := by
  have hi : i < qs.length := by rw [← h.1]; exact (List.getElem?_eq_some_iff.mp e).1
  obtain ⟨p, e1, e2⟩ := h.2 i qs[i] (List.getElem?_eq_getElem hi)
  rw [e] at e1
  exact ⟨p, qs[i], List.getElem?_eq_getElem hi, Option.some.inj e1, e2⟩
theorem PileAt.ne {K : PySem.W.Frag} {H : Hp} {q p C dx : Addr} {r : Pl} {fs : List (Str × V)} (h : PileAt K H q r) (hp : H p = some (.ins C dx fs)) (hf : fs.length ≤ 1) : q ≠ p := by
  rintro rfl
  cases hb : r.pn with
  | true => obtain ⟨_, _, e⟩ := pile_plain h hb; rw [hp] at e; injection e with e; injection e with _ _ e; rw [e] at hf; simp at hf
  | false => obtain ⟨_, _, _, _, e, _⟩ := pile_book h hb; rw [hp] at e; injection e with e; injection e with _ _ e; rw [e] at hf; simp at hf
theorem BookAt.smx {K : PySem.W.Frag} {H H' : Hp} {p C dx b : Addr} {fs : List (Str × V)} {rs : List Rl} (h : BookAt K H b rs) (hp : H p = some (.ins C dx fs)) (hf : fs.length ≤ 1) (k : SmX p H H') : BookAt K H' b rs := by
  obtain ⟨dy, t, us, qs, m, st, re, h1, h2, h3, h4⟩ := h
  have n1 : b ≠ p := by
    rintro rfl
    rw [hp] at h1
    injection h1 with e
    injection e with _ _ e
    rw [e] at hf
    simp [bFs] at hf
  refine ⟨dy, t, us, qs, m, st, re, k _ _ n1 h1, k _ _ (tup_ne hp h2) h2, ⟨h3.1, fun i r e => ?_⟩, h4⟩
  obtain ⟨c, ec, hc⟩ := h3.2 i r e
  refine ⟨c, ec, ?_⟩
  obtain ⟨dz, e2, o⟩ := hc
  refine ⟨dz, k _ _ ?_ e2, o⟩
  rintro rfl
  rw [hp] at e2
  injection e2 with e
  injection e with _ _ e
  rw [e] at hf
  unfold rFs at hf
  split at hf <;> simp at hf
theorem PileAt.smx {K : PySem.W.Frag} {H H' : Hp} {q p C dx : Addr} {r : Pl} {fs : List (Str × V)} (h : PileAt K H q r) (hp : H p = some (.ins C dx fs)) (hf : fs.length ≤ 1) (k : SmX p H H') : PileAt K H' q r := by
  have hn := h.ne hp hf
  cases hb : r.pn with
  | true => obtain ⟨h1, _, e⟩ := pile_plain h hb; exact plain_at hb h1 (k _ _ hn e)
  | false => obtain ⟨h1, h2, _, b, e, hB⟩ := pile_book h hb; exact book_at hb h1 h2 (k _ _ hn e) (hB.smx hp hf k)
theorem PilesAt.smx {K : PySem.W.Frag} {H H' : Hp} {p C dx : Addr} {us : List V} {rs : List Pl} {fs : List (Str × V)} (h : PilesAt K H us rs) (hp : H p = some (.ins C dx fs)) (hf : fs.length ≤ 1) (k : SmX p H H') : PilesAt K H' us rs :=
  ⟨h.1, fun i r e => let ⟨q, e1, e2⟩ := h.2 i r e; ⟨q, e1, e2.smx hp hf k⟩⟩
def PosAt (K : PySem.W.Frag) (H : Hp) (p : Addr) (qs : List Pl) : Prop := qs.length ≤ 20 ∧ ∃ (dx t : Addr) (us : List V), H p = some (.ins (kPosition K) dx [("piles", .ref t)]) ∧ H t = some (.tup us) ∧ PilesAt K H us qs
theorem PosAt.kp {K : PySem.W.Frag} {H H' : Hp} {p : Addr} {qs : List Pl} (h : PosAt K H p qs) (k : GF.Kp H H') : PosAt K H' p qs := by
  obtain ⟨hz, dx, t, us, h1, h2, h3⟩ := h
  exact ⟨hz, dx, t, us, kpi k h1, kpt k h2, h3.kp k⟩
section
variable {w : World} {K : PySem.W.Frag} {mg : Str → Option Value} {base : Heap}
theorem pl_ty (T : Txt K mg) {H : Hp} {p : Addr} {q : Pl} (h : PileAt K H p q) : ∃ t, TyX K H (.ref p) t ∧ PySem.W.kitOne K t (.ref (kLaid K)) = some true := by
  cases hd : q.pn with
  | true => obtain ⟨_, dx, h⟩ := pile_plain h hd; exact ⟨_, tyI h T.c_Plain T.ty_Plain, T.ki_Plain_Laid⟩
  | false => obtain ⟨_, _, dx, b, h, _⟩ := pile_book h hd; exact ⟨_, tyI h T.c_Pile T.ty_Pile, T.ki_Pile_Laid⟩
def spPos0 (K : PySem.W.Frag) : Sp := fun vs H Q _ => ∃ (p dx t : Addr) (us : List V) (qs : List Pl), vs = [.ref p, .ref t] ∧ H p = some (.ins (kPosition K) dx []) ∧ H t = some (.tup us) ∧ PilesAt K H us qs ∧ qs.length ≤ 20 ∧ ∀ H', PosAt K H' p qs → SmX p H H' → Q .non H'
theorem ok_pos0 (T : Txt K mg) : F0 PP w K mg base 2 (a_Position_init K) (fun vs H Q E => ∃ ws rest, vs = ws ++ rest ∧ ws.length = 1 ∧ rest.length ≤ sizeLine ∧ ∀ p, H p = Option.none → spPos0 K (ws ++ [V.ref p]) (upd H p (.tup rest)) Q E) := by
  have S : FnScope ["self", "piles", "at", "pile"] (["self", "piles"] : List Str) (defScope s_Position_init) := ⟨rfl, rfl, rfl, by decide +kernel, rfl, by decide +kernel, by decide +kernel⟩
  refine fd_star (k := 1) (ps := ["self"]) T.f_Position_init S (fun dV kV doc pm an cdv ct us rest e hl => by subst e; exact StX.bind_star1 (p1 := "self") (pv := "piles") (B := fun us => bindArgs _ ⟨us, []⟩) (fun _ => rfl) (fun _ _ _ => rfl) us rest hl) (fun cdv A outer s H vs Q E hr h => ?_)
  obtain ⟨p, dx, t, us, rs, rfl, hp, ht, hR, hl2, k⟩ := h
  obtain ⟨tk, hk⟩ := T.k_MOST_PILES
  have nd := S.nd
  refine ⟨_, pss_cons (ps_for PassesOwn.never rfl (pi_enumT T.z_enumerate (pa_cons (pv 1) pa_nil)) (pg_tup rfl (pgs_cons (pg_name (i := 2) nd rfl (.inl rfl)) (pgs_cons (pg_name (i := 3) nd rfl (.inl rfl)) pgs_nil)))
      (pss_one (ps_if (pt_not (pt_val (c_isC (pv 3) T.z_isinstance T.g_Laid))) (pss_one ps_never) pss_nil)))
    (pss_cons (ps_if (pt_cmpR op_gt (pe_callB call_len_seq (by rfl) T.z_len PySem.boot_len (pa_cons (pv 1) pa_nil)) (pe_glob (v := .int 20) rfl hk ⟨_, rfl⟩) (nomark _)) (pss_one ps_never) pss_nil)
    (pss_one (ps_fld (pv 0) (pe_callTy call_tuple_of (by rfl) T.z_tuple boot_tuple (pa_cons (pv 1) pa_nil)) rfl))), ?_⟩
  refine ⟨_, rfl, t, us, rfl, ht, for_it walk_enumT (fun i σ H' => Same H H' ∧ ∃ v1 v2, σ = [some (.ref p), some (.ref t), v1, v2]) ⟨Same.refl H, none, none, rfl⟩ (fun i σ H' _ ⟨sm, _⟩ => sm _ _ ht) ?_ ?_⟩
  · rintro i x σ H' H'' hi ⟨sm, v1, v2, rfl⟩ ⟨T1, y1, y2, rfl, hT, rfl, e1, e2⟩
    cases e1
    obtain ⟨q, r, er, rfl, hq⟩ := hR.at_ e2
    have sm' : Same H (upd H' T1 (.tup [.int (i : Nat), .ref q])) := same_upd3 sm hT
    refine ⟨T1, _, rfl, .inl (.inl upd_same), rfl, _, _, rfl, _, _, rfl, rfl, ?_⟩
    obtain ⟨ty, h1, h2⟩ := pl_ty T (hq.kp (GF.Same.kp sm'))
    refine ⟨_, rfl, ty, true, h1, h2, _, rfl, ?_⟩
    exact iteF ⟨sm', _, _, rfl⟩
  · rintro σ H1 ⟨sm1, v1, v2, rfl⟩
    have hp1 := sm1 _ _ hp
    have ntp : t ≠ p := tup_ne hp ht
    have hul : us.length = rs.length := hR.1
    refine ⟨_, rfl, t, us, rfl, .inr (.inl (.inl (sm1 _ _ ht))), _, _, rfl, rfl, _, rfl, ?_⟩
    refine ite2 (fun hgt => ?_) (fun _ => ?_)
    · exfalso
      have := of_decide_eq_true hgt
      omega
    refine ⟨_, rfl, t, us, rfl, .inr ⟨.inl (.inl (sm1 _ _ ht)), ?_⟩⟩
    refine ⟨_, rfl, p, _, dx, _, rfl, hp1, T.c_Position, T.n_Position_piles, by decide, ?_⟩
    have x1 : SmX p H (upd H1 p (.ins (kPosition K) dx (putF "piles" (.ref t) []))) := (SmX.same sm1).trans SmX.put
    exact k _ ⟨hl2, dx, t, us, upd_same, by rw [upd_ne ntp]; exact sm1 _ _ ht, hR.smx hp (by simp) x1⟩ x1
/-- Position(*..) at a new instance -/
theorem pos_make (T : Txt K mg) {H1 : Hp} {us : List V} {qs : List Pl} {Q : VK} (hR : PilesAt K H1 us qs) (hl : qs.length ≤ 20) (k : ∀ b H', Same H1 H' → H1 b = none → PosAt K H' b qs → Q (.ref b) H') :
    ∀ x dx, H1 x = none → H1 dx = none → dx ≠ x → (fun vs H Q (E : XK) => ∃ ws rest, vs = ws ++ rest ∧ ws.length = 1 ∧ rest.length ≤ sizeLine ∧ ∀ p, H p = Option.none → spPos0 K (ws ++ [V.ref p]) (upd H p (.tup rest)) Q E) (V.ref x :: us) (upd (upd H1 dx (.own x)) x (.ins (kPosition K) dx [])) (fun v H2 => v = .non ∧ Q (.ref x) H2) E0 := by
  intro x dx hx hdx hne
  have hz : us.length ≤ 20 := by rw [hR.1]; exact hl
  refine ⟨[.ref x], us, rfl, rfl, Nat.le_trans hz (by decide), fun p hp => ?_⟩
  have nxp : x ≠ p := fun z => by rw [← z, upd_same] at hp; cases hp
  have sm : Same H1 (upd (upd (upd H1 dx (.own x)) x (.ins (kPosition K) dx [])) p (.tup us)) := same_upd3 (same_upd3 (same_upd hdx) (by rw [upd_ne (Ne.symm hne)]; exact hx)) hp
  exact ⟨x, dx, p, us, qs, rfl, by rw [upd_ne nxp]; exact upd_same, upd_same, hR.kp (GF.Same.kp sm), hl, fun H' hb hs => ⟨rfl, k x H' (fun b o e => hs b o (ne_of_none e hx) (sm b o e)) hx hb⟩⟩
def spPosOf (K : PySem.W.Frag) : Sp := fun vs H Q _ => ∃ (l : Addr) (us : List V) (qs : List Pl), vs = [.ref (kPosition K), .ref l] ∧ H l = some (.lst us) ∧ PilesAt K H us qs ∧ qs.length ≤ 20 ∧ ∀ b H', Same H H' → H b = none → PosAt K H' b qs → Q (.ref b) H'
theorem ok_pos_of (T : Txt K mg) : F0 PP w K mg base 4 (a_Position_of K) (spPosOf K) := by
  have S : FnScope ["cls", "piles"] ["cls", "piles"] (defScope s_Position_of) := ⟨rfl, rfl, rfl, by decide +kernel, rfl, by decide +kernel, by decide +kernel⟩
  refine fd_ok T.f_Position_of S (fun vs H Q E h => ?_) (fun _ _ _ _ _ _ us hl => match us, hl with | [_, _], _ => rfl) (fun cdv A outer s H vs Q E hr h => ?_)
  · obtain ⟨l, us, rs, rfl, _⟩ := h; rfl
  · obtain ⟨l, us, rs, rfl, hl, hR, h2, k⟩ := h
    refine ⟨_, pss_cons (ps_if (pt_not (pt_val (pe_callB call_isiT (by rfl) T.z_isinstance boot_isinstance (pa_cons (pv 1) (pa_cons (pe_tup (pa_cons (pe_bltn (v := .ty "list") rfl T.z_list boot_list rfl) (pa_cons (pe_bltn (v := .ty "tuple") rfl T.z_tuple boot_tuple rfl) pa_nil))) pa_nil))))) (pss_one ps_never) pss_nil)
      (pss_one (ps_ret (c_makeVS T.mk_Position (ok_pos0 T) hr (pv 0) (pv 1)))), ?_⟩
    refine ⟨_, rfl, by decide, fun p hp => ?_⟩
    have np : l ≠ p := ne_of_none hl hp
    refine ⟨.ref l, p, [.ty "list", .ty "tuple"], .type "list", [.type "list", .type "tuple"], true, rfl, upd_same, .cons (.ty _) (.cons (.ty _) .nil), .base (.lst (by rw [upd_ne np]; exact hl)), kit_lt, _, rfl, ?_⟩
    have sm := same_upd (o := .tup [.ty "list", .ty "tuple"]) hp
    refine iteF ⟨rfl, _, rfl, l, us, rfl, .inr (.inl (.inl (sm _ _ hl))), pos_make T (hR.kp (GF.Same.kp sm)) h2 fun b H' s fb hb => k b H' (sm.trans s) (sm.free fb) hb⟩
/-! worths of positions -/
def xo (qs : List Pl) : Nat := qs.foldl (fun a q => a ^^^ wo q) 0
/-- a pile's method of either class -/
theorem pd2 {t : TA} {σ : L2.St} {H : Hp} {p : Addr} {q : Pl} {sp : Bool → Sp} {m : Str} {Q : VK} (h : PileAt K H p q) (hm : (("size" : Str) == m) = false ∧ (("book" : Str) == m) = false) (k : t σ H fun vs H2 => sp q.pn (.ref p :: vs) H2 Q E0) :
    ∃ a dx fs, V.ref p = .ref a ∧ fs.lookup m = none ∧ ((H a = some (.ins (kPile K) dx fs) ∧ t σ H fun vs H2 => sp false (.ref p :: vs) H2 Q E0) ∨ (H a = some (.ins (kPlain K) dx fs) ∧ t σ H fun vs H2 => sp true (.ref p :: vs) H2 Q E0)) := by
  have lk : ∀ v : V, (pFs q.n v).lookup m = none := fun v => by
    have e1 : (m == ("size" : Str)) = false := by rw [Bool.eq_false_iff, ne_eq, beq_iff_eq]; intro z; rw [← z] at hm; simp at hm
    have e2 : (m == ("book" : Str)) = false := by rw [Bool.eq_false_iff, ne_eq, beq_iff_eq]; intro z; rw [← z] at hm; simp at hm
    show List.lookup m [(("size" : Str), sN q.n), ("book", v)] = none
    rw [List.lookup_cons, e1, List.lookup_cons, e2]
    rfl
  cases hd : q.pn with
  | true => obtain ⟨_, dx, e⟩ := pile_plain h hd; rw [hd] at k; exact ⟨p, dx, _, rfl, lk _, .inr ⟨e, k⟩⟩
  | false => obtain ⟨_, _, dx, b, e, _⟩ := pile_book h hd; rw [hd] at k; exact ⟨p, dx, _, rfl, lk _, .inl ⟨e, k⟩⟩
def spPosWo (K : PySem.W.Frag) : Sp := fun vs H Q _ => ∃ (p : Addr) (qs : List Pl), vs = [.ref p] ∧ PosAt K H p qs ∧ ∀ H', Same H H' → Q (sN (xo qs)) H'
theorem ok_pos_worth (T : Txt K mg) : F0 PP w K mg base 12 (a_Position_its_worth K) (spPosWo K) := by
  have S : FnScope ["self", "found", "pile"] ["self"] (defScope s_Position_its_worth) := ⟨rfl, rfl, rfl, by decide +kernel, rfl, by decide +kernel, by decide +kernel⟩
  refine fd_ok T.f_Position_its_worth S (fun vs H Q E h => ?_) (fun _ _ _ _ _ _ us hl => match us, hl with | [_], _ => rfl) (fun cdv A outer s H vs Q E hr h => ?_)
  · obtain ⟨p, qs, rfl, _⟩ := h; rfl
  · obtain ⟨p, qs, rfl, ⟨hz, dx, t, us, hp, ht, hP⟩, k⟩ := h
    have nd := S.nd
    refine ⟨_, pss_cons (ps_set (i := 1) nd rfl (.inl rfl) pe_int) (pss_cons (ps_for PassesOwn.never rfl (pi_tup (pe_fld (pv 0) rfl)) (pg_name (i := 2) nd rfl (.inl rfl))
      (pss_one (ps_set (i := 1) nd rfl (.inl rfl) (pe_op op_xor (pv 1) (c_meth20 (pv 2) T.c_Pile T.m_Pile_its_worth (ok_pile_worth T) hr T.c_Plain T.m_Plain_its_worth (ok_plain_worth T) (hr.mono (by decide)))))))
      (pss_one (ps_ret (pv 1)))), ?_⟩
    refine ⟨_, rfl, p, _, dx, _, _, rfl, hp, T.c_Position, T.n_Position_piles, rfl, t, rfl, ⟨us, .inl (.inl ht)⟩, ?_⟩
    refine for_tup (K := K) (a := t) (xs := us) (fun i σ H' => Same H H' ∧ ∃ v, σ = [some (.ref p), some (sN (xo (qs.take i))), v]) ⟨Same.refl H, none, rfl⟩ (fun i σ H' _ ⟨sm, _⟩ => .inl (.inl (sm _ _ ht))) ?_ ?_
    · rintro i x σ H' hx ⟨sm, v, rfl⟩
      obtain ⟨c, q, eq, rfl, hq⟩ := hP.at_ hx
      have hq := hq.kp (GF.Same.kp sm)
      refine ⟨_, rfl, _, rfl, pd2 (sp := fun b => spWo K b) hq (by decide) ⟨c, q, rfl, hq, rfl, fun H2 sm2 => ⟨_, _, rfl, rfl, sm.trans sm2, some (.ref c), ?_⟩⟩⟩
      have e : xo (qs.take (i + 1)) = xo (qs.take i) ^^^ wo q := by
        unfold xo
        rw [List.take_add_one, eq, List.foldl_append]
        rfl
      show [some (.ref p), some (V.int (Builtin.bitXor _ _)), _] = _
      rw [bitXor_nat, e]
      rfl
    · rintro σ H' ⟨sm, v, rfl⟩
      have e : qs.take us.length = qs := by rw [hP.1]; exact List.take_length
      rw [e]
      exact ⟨_, rfl, k H' sm⟩
def spWins (K : PySem.W.Frag) : Sp := fun vs H Q _ => ∃ (p : Addr) (qs : List Pl), vs = [.ref p] ∧ PosAt K H p qs ∧ ∀ H', Same H H' → Q (.bl (decide (xo qs ≠ 0))) H'
theorem ok_wins (T : Txt K mg) : F0 PP w K mg base 13 (a_Position_wins K) (spWins K) := by
  have S : FnScope ["self"] ["self"] (defScope s_Position_wins) := ⟨rfl, rfl, rfl, by decide +kernel, rfl, by decide +kernel, by decide +kernel⟩
  refine fd_ok T.f_Position_wins S (fun vs H Q E h => ?_) (fun _ _ _ _ _ _ us hl => match us, hl with | [_], _ => rfl) (fun cdv A outer s H vs Q E hr h => ?_)
  · obtain ⟨p, qs, rfl, _⟩ := h; rfl
  · obtain ⟨p, qs, rfl, hP, k⟩ := h
    obtain ⟨_, dx, t, us, hp, _⟩ := id hP
    refine ⟨_, pss_one (ps_ret (pe_cmpR op_ne (c_meth0 (pv 0) T.c_Position T.m_Position_its_worth (ok_pos_worth T) hr) pe_int (nomark _))), ?_⟩
    refine ⟨_, rfl, p, dx, _, rfl, hp, rfl, p, qs, rfl, hP, fun H' sm => ?_⟩
    have e : (!decide (sN (xo qs) = V.int 0)) = decide (xo qs ≠ 0) := by
      unfold sN
      by_cases h : xo qs = 0 <;> simp [h]
    have k := k H' sm
    rw [← e] at k
    unfold sN at k ⊢
    exact ⟨rfl, k⟩
/-! self[i] -/
def spPosGet (K : PySem.W.Frag) : Sp := fun vs H Q _ => ∃ (p : Addr) (qs : List Pl) (i : Nat) (q : Pl), vs = [.ref p, sN i] ∧ PosAt K H p qs ∧ qs[i]? = some q ∧ ∀ c, PileAt K H c q → Q (.ref c) H
theorem ok_pos_get (T : Txt K mg) : F0 PP w K mg base 2 (a_Position_getitem K) (spPosGet K) := by
  have S : FnScope ["self", "i"] ["self", "i"] (defScope s_Position_getitem) := ⟨rfl, rfl, rfl, by decide +kernel, rfl, by decide +kernel, by decide +kernel⟩
  refine fd_ok T.f_Position_getitem S (fun vs H Q E h => ?_) (fun _ _ _ _ _ _ us hl => match us, hl with | [_, _], _ => rfl) (fun cdv A outer s H vs Q E hr h => ?_)
  · obtain ⟨p, qs, i, q, rfl, _⟩ := h; rfl
  · obtain ⟨p, qs, i, q, rfl, ⟨hz, dx, t, us, hp, ht, hP⟩, hi, k⟩ := h
    have hlt := (List.getElem?_eq_some_iff.mp hi).1
    have hul := hP.1
    obtain ⟨c, hc, hq⟩ := hP.2 i q hi
    refine ⟨_, pss_cons (ps_if (pt_not (pt_val (c_call (ok_is_integer T) hr T.g_is_integer T.f_is_integer.kp (pa_cons (pv 1) (pa_cons pe_int (pa_cons (pe_op op_sub (pe_callB call_len_seq (by rfl) T.z_len PySem.boot_len (pa_cons (pe_fld (pv 0) rfl) pa_nil)) pe_int) pa_nil)))))) (pss_one ps_never) pss_nil)
      (pss_one (ps_ret (pe_ix ix_tup (pe_fld (pv 0) rfl) (pv 1) (fun _ _ => rfl)))), ?_⟩
    refine ⟨_, rfl, _, rfl, p, _, dx, _, _, rfl, hp, T.c_Position, T.n_Position_piles, rfl, t, us, rfl, .inr (.inl (.inl ht)), _, _, rfl, rfl, _, _, _, rfl, _, rfl, ?_⟩
    rw [bd (by omega) (by omega)]
    refine iteF ?_
    refine ⟨_, rfl, p, _, dx, _, _, rfl, hp, T.c_Position, T.n_Position_piles, rfl, _, rfl, t, _, _, .ref c, rfl, rfl, .inl (.inl ht), atI_nat hc, ?_⟩
    exact k c hq
end
end RW
end

/-! ## F16 -/
section
set_option Elab.async false
set_option linter.all false
set_option maxRecDepth 100000
set_option maxHeartbeats 4000000
namespace RW
open PySem PySem.Spec PyProof.Rows L2
def DSame : Eqv := fun x y _ => ∃ a : Addr, x = .ref a ∧ y = .ref a
theorem mon_same : Mon DSame := fun _ _ _ _ _ d => d
theorem eqG_same {X : Cx} : EqG X 0 DSame := by
  intro A pins s σ H x y u v sb I rx ry d
  obtain ⟨a, rfl, rfl⟩ := d
  cases rx
  cases ry
  exact SeqAt.EqAt.same (A := A) (s := s) (.ref a) X.prog X.w X.xe _ ⟨rfl, H, I, Ext.rfl'⟩
section
variable {w : World} {K : PySem.W.Frag} {mg : Str → Option Value} {base : Heap}
/-! position == itself -/
def spPosEq (K : PySem.W.Frag) : Sp := fun vs H Q _ => ∃ (p : Addr) (qs : List Pl), vs = [.ref p, .ref p] ∧ PosAt K H p qs ∧ ∀ H', Same H H' → Q (.bl true) H'
theorem ok_pos_eq (T : Txt K mg) : F0 PP w K mg base 2 (a_Position_eq K) (spPosEq K) := by
  have S : FnScope ["self", "other"] ["self", "other"] (defScope s_Position_eq) := ⟨rfl, rfl, rfl, by decide +kernel, rfl, by decide +kernel, by decide +kernel⟩
  refine fd_ok T.f_Position_eq S (fun vs H Q E h => ?_) (fun _ _ _ _ _ _ us hl => match us, hl with | [_, _], _ => rfl) (fun cdv A outer s H vs Q E hr h => ?_)
  · obtain ⟨p, qs, rfl, _⟩ := h; rfl
  · obtain ⟨p, qs, rfl, ⟨hz, dx, t, us, hp, ht, hP⟩, k⟩ := h
    refine ⟨_, pss_one (ps_ret (pe_and (c_isC (pv 1) T.z_isinstance T.g_Position) (pe_one (pe_cmpR (op_eqG (rcG_tup mon_same eqG_same) hr) (pe_fld (pv 0) rfl) (pe_fld (pv 1) rfl) (nomark _))))), ?_⟩
    refine ⟨_, rfl, _, true, tyI hp T.c_Position T.ty_Position, T.ki_Position_Position, true, rfl, ?_⟩
    refine iteT ?_
    refine ⟨_, rfl, p, _, dx, _, _, rfl, hp, T.c_Position, T.n_Position_piles, rfl, _, rfl, p, _, dx, _, _, rfl, hp, T.c_Position, T.n_Position_piles, rfl, ?_⟩
    refine ⟨⟨t, t, us, us, rfl, rfl, .inl (.inl ht), .inl (.inl ht), rfl, fun i x y h1 h2 => ?_⟩, fun H' e => k H' e⟩
    rw [h1] at h2
    cases h2
    obtain ⟨c, q, _, rfl, _⟩ := hP.at_ h1
    exact ⟨c, rfl, rfl⟩
/-! after -/
def aft (qs : List Pl) (m : Nat × Nat) : List Pl := match qs[m.1]? with
  | some q => qs.set m.1 { q with n := q.n - m.2 }
  | none => qs
def mvV (H : Hp) (v : V) (m : Nat × Nat) : Prop := ∃ a, v = .ref a ∧ H a = some (.tup [sN m.1, sN m.2])
def spAfter (K : PySem.W.Frag) : Sp := fun vs H Q _ => ∃ (p : Addr) (qs : List Pl) (mv : V) (m : Nat × Nat) (q : Pl), vs = [.ref p, mv] ∧ PosAt K H p qs ∧ mvV H mv m ∧ qs[m.1]? = some q ∧ m.2 ∈ nums q ∧
  ∀ x H', Same H H' → H x = none → PosAt K H' x (aft qs m) → Q (.ref x) H'
theorem ok_after (T : Txt K mg) : F0 PP w K mg base 10 (a_Position_after K) (spAfter K) := by
  have S : FnScope ["self", "move", "pile", "found"] ["self", "move"] (defScope s_Position_after) := ⟨rfl, rfl, rfl, by decide +kernel, rfl, by decide +kernel, by decide +kernel⟩
  obtain ⟨fo, is_⟩ := T.is_
  obtain ⟨ro, ir_⟩ := T.ir_
  refine fd_ok T.f_Position_after S (fun vs H Q E h => ?_) (fun _ _ _ _ _ _ us hl => match us, hl with | [_, _], _ => rfl) (fun cdv A outer s H vs Q E hr h => ?_)
  · obtain ⟨p, qs, mv, m, q, rfl, _⟩ := h; rfl
  · obtain ⟨p, qs, mv, ⟨i, n⟩, q, rfl, hPos, ⟨a, rfl, ha⟩, hi, hn, k⟩ := h
    have nd := S.nd
    obtain ⟨hz, dx, t, us, hp, ht, hP⟩ := id hPos
    refine ⟨_, pss_cons (ps_if (PW.pt (pw_or (pt_not (pt_val (c_isT (pv 1) T.z_isinstance T.z_tuple boot_tuple))) (pw_or1 (pt_cmpR op_ne (pe_callB call_len_seq (by rfl) T.z_len PySem.boot_len (pa_cons (pv 1) pa_nil)) pe_int (nomark _))))) (pss_one ps_never) pss_nil)
      (pss_cons (ps_par (i := 2) (j := 3) rfl nd rfl rfl (by decide) rfl rfl (pa_cons (c_getitem T.m_Position_getitem T.fi_Position_getitem (ok_pos_get T) (hr.mono (by decide)) (pv 0) (pe_ix ix_tup (pv 1) pe_int (fun _ _ => rfl))) (pa_cons (pe_callTy call_list_of (by rfl) T.z_list boot_list (pa_cons (pe_fld (pv 0) rfl) pa_nil)) pa_nil)) (by rfl))
      (pss_cons (ps_asg (pe_op (OpR.or (op_own_int T.m_Pile_sub T.sf_Pile T.rs_Pile (.inl rfl) is_ ir_ T.su_Pile (ok_sub T) hr) (op_own_int T.m_Plain_sub T.sf_Plain T.rs_Plain (.inl rfl) is_ ir_ T.su_Plain (ok_sub T) hr)) (pv 2) (pe_ix ix_tup (pv 1) pe_int (fun _ _ => rfl)))
          (pg_sub (pv 3) (pe_ix ix_tup (pv 1) pe_int (fun _ _ => rfl)) set_list))
      (pss_one (ps_ret (c_makeS T.mk_Position (ok_pos0 T) (hr.mono (by decide)) T.g_Position (pv 3)))))), ?_⟩
    have hlt := (List.getElem?_eq_some_iff.mp hi).1
    have hul := hP.1
    refine ⟨_, rfl, .type "tuple", true, .base (.tup ha), kit_ty (by decide +kernel), true, rfl, ?_⟩
    refine iteF ⟨_, rfl, a, _, rfl, .inr (.inl (.inl ha)), rfl, _, rfl, ?_⟩
    refine ite2 (fun h => ?_) (fun _ => ?_)
    · exfalso
      simp at h
    refine ⟨_, rfl, _, rfl, a, _, _, sN i, rfl, rfl, .inl (.inl ha), rfl, p, dx, _, rfl, hp, p, qs, i, q, rfl, hPos, hi, fun c hq => ?_⟩
    refine ⟨_, rfl, p, _, dx, _, _, rfl, hp, T.c_Position, T.n_Position_piles, rfl, t, us, rfl, .inr (.inl (.inl ht)), fun l hl => ⟨_, _, rfl, ?_⟩⟩
    have sm1 := same_upd (o := .lst us) hl
    have hq1 := hq.kp (GF.Same.kp sm1)
    have hmn := nums_mem (fun e => hq.ok e) hn
    refine ⟨_, rfl, _, rfl, a, _, _, sN n, rfl, rfl, .inl (.inl (sm1 _ _ ha)), rfl, ?_⟩
    cases hb : q.pn with
    | true =>
      obtain ⟨hmax, dq, hq0⟩ := pile_plain hq1 hb
      refine .inr ⟨c, dq, _, (n : Int), rfl, rfl, hq0, c, q, n, rfl, hq1, hn, fun x H2 sm2 hx hx2 => ⟨⟨x, rfl⟩, ?_⟩⟩
      have sm := sm1.trans sm2
      have hl2 : H2 l = some (.lst us) := sm2 _ _ upd_same
      have sx : SmX l H (upd H2 l (.lst (us.set i (.ref x)))) := (SmX.same sm).trans SmX.put
      have sF : Same H (upd H2 l (.lst (us.set i (.ref x)))) := sx.toSame hl
      have kL : GF.Kp H2 (upd H2 l (.lst (us.set i (.ref x)))) := (SmX.put (o := .lst (us.set i (.ref x)))).kp hl2
      refine ⟨_, rfl, _, rfl, a, _, _, sN i, rfl, rfl, .inl (.inl (sm _ _ ha)), rfl, l, us, (i : Int), i, rfl, rfl, hl2, ?_, ?_⟩
      · unfold ixN
        rw [if_pos (by omega), if_pos (by omega)]
        rfl
      · refine ⟨_, rfl, l, _, rfl, .inr (.inl (.inl upd_same)), pos_make (qs := aft qs (i, n)) T ⟨?_, fun j r hj => ?_⟩ ?_ fun b H' s fb hb' => k b H' (sF.trans s) (sF.free fb) hb'⟩
        · unfold aft
          rw [show qs[(i, n).1]? = some q from hi]
          rw [List.length_set, List.length_set]
          exact hul
        · unfold aft at hj
          rw [show qs[(i, n).1]? = some q from hi] at hj
          have hj : (qs.set i { q with n := q.n - n })[j]? = some r := hj
          by_cases hij : i = j
          · subst hij
            rw [List.getElem?_set_self hlt] at hj
            cases hj
            exact ⟨x, List.getElem?_set_self (by omega), hx2.kp kL⟩
          · rw [List.getElem?_set_ne hij] at hj
            obtain ⟨c', hc', hq'⟩ := hP.2 j r hj
            exact ⟨c', by rw [List.getElem?_set_ne hij]; exact hc', hq'.kp (GF.Same.kp sF)⟩
        · unfold aft
          rw [show qs[(i, n).1]? = some q from hi]
          rw [List.length_set]
          exact hz
    | false =>
      obtain ⟨hmax, h16, dq, b, hq0, hB⟩ := pile_book hq1 hb
      refine .inl ⟨c, dq, _, (n : Int), rfl, rfl, hq0, c, q, n, rfl, hq1, hn, fun x H2 sm2 hx hx2 => ⟨⟨x, rfl⟩, ?_⟩⟩
      have sm := sm1.trans sm2
      have hl2 : H2 l = some (.lst us) := sm2 _ _ upd_same
      have sx : SmX l H (upd H2 l (.lst (us.set i (.ref x)))) := (SmX.same sm).trans SmX.put
      have sF : Same H (upd H2 l (.lst (us.set i (.ref x)))) := sx.toSame hl
      have kL : GF.Kp H2 (upd H2 l (.lst (us.set i (.ref x)))) := (SmX.put (o := .lst (us.set i (.ref x)))).kp hl2
      refine ⟨_, rfl, _, rfl, a, _, _, sN i, rfl, rfl, .inl (.inl (sm _ _ ha)), rfl, l, us, (i : Int), i, rfl, rfl, hl2, ?_, ?_⟩
      · unfold ixN
        rw [if_pos (by omega), if_pos (by omega)]
        rfl
      · refine ⟨_, rfl, l, _, rfl, .inr (.inl (.inl upd_same)), pos_make (qs := aft qs (i, n)) T ⟨?_, fun j r hj => ?_⟩ ?_ fun b H' s fb hb' => k b H' (sF.trans s) (sF.free fb) hb'⟩
        · unfold aft
          rw [show qs[(i, n).1]? = some q from hi]
          rw [List.length_set, List.length_set]
          exact hul
        · unfold aft at hj
          rw [show qs[(i, n).1]? = some q from hi] at hj
          have hj : (qs.set i { q with n := q.n - n })[j]? = some r := hj
          by_cases hij : i = j
          · subst hij
            rw [List.getElem?_set_self hlt] at hj
            cases hj
            exact ⟨x, List.getElem?_set_self (by omega), hx2.kp kL⟩
          · rw [List.getElem?_set_ne hij] at hj
            obtain ⟨c', hc', hq'⟩ := hP.2 j r hj
            exact ⟨c', by rw [List.getElem?_set_ne hij]; exact hc', hq'.kp (GF.Same.kp sF)⟩
        · unfold aft
          rw [show qs[(i, n).1]? = some q from hi]
          rw [List.length_set]
          exact hz
end
end RW
end

/-! ## F17 -/
section
set_option Elab.async false
set_option linter.all false
set_option maxRecDepth 100000
set_option maxHeartbeats 4000000
namespace RW
open PySem PySem.Spec PyProof.Rows L2
section
variable {w : World} {K : PySem.W.Frag} {mg : Str → Option Value} {base : Heap}
/-! two plain piles -/
def spXor (K : PySem.W.Frag) : Sp := fun vs H Q _ => ∃ (a b : Addr) (q r : Pl), vs = [.ref a, .ref b] ∧ PileAt K H a q ∧ PileAt K H b r ∧ r.pn = true ∧ ∀ x H', Same H H' → H x = none → PosAt K H' x [q, r] → Q (.ref x) H'
theorem ok_xor (T : Txt K mg) : F0 PP w K mg base 4 (a_Pile_xor K) (spXor K) := by
  have S : FnScope ["self", "other"] ["self", "other"] (defScope s_Pile_xor) := ⟨rfl, rfl, rfl, by decide +kernel, rfl, by decide +kernel, by decide +kernel⟩
  refine fd_ok T.f_Pile_xor S (fun vs H Q E h => ?_) (fun _ _ _ _ _ _ us hl => match us, hl with | [_, _], _ => rfl) (fun cdv A outer s H vs Q E hr h => ?_)
  · obtain ⟨a, b, q, r, rfl, _⟩ := h; rfl
  · obtain ⟨a, b, q, r, rfl, hq, hr2, hrp, k⟩ := h
    obtain ⟨_, dr, e⟩ := pile_plain hr2 hrp
    refine ⟨_, pss_cons (ps_if (pt_val (c_isC (pv 1) T.z_isinstance T.g_Position)) (pss_one ps_never) pss_nil) (pss_cons (ps_if (pt_not (pt_val (c_isC (pv 1) T.z_isinstance T.g_Pile))) (pss_one ps_never) pss_nil)
      (pss_one (ps_ret (c_make T.mk_Position (ok_pos0 T) hr T.g_Position (pa_cons (pv 0) (pa_cons (pv 1) pa_nil)))))), ?_⟩
    refine ⟨_, rfl, _, false, tyI e T.c_Plain T.ty_Plain, T.ki_Plain_Position, _, rfl, ?_⟩
    refine iteF ⟨_, rfl, _, true, tyI e T.c_Plain T.ty_Plain, T.ki_Plain_Pile, _, rfl, ?_⟩
    refine iteF ⟨_, rfl, _, rfl, ?_⟩
    refine pos_make (qs := [q, r]) T ⟨rfl, fun i z hz => ?_⟩ (by simp) k
    match i, hz with
    | 0, hz => cases hz; exact ⟨a, rfl, hq⟩
    | 1, hz => cases hz; exact ⟨b, rfl, hr2⟩
/-! ### generators -/
/-- a generator def without defaults -/
theorem yfd {x qual : Str} {st : Stmt} {f : Addr} {N ps : List Str} {k : Nat} {sp : GF.SpY} (F : FD K x qual st [] f) (S : GScope N ps (defScope st)) (noc : ∀ y ∈ (defScope st).names, y.2 ≠ .cell) (len : ∀ vs H n it, sp vs H n it → vs.length = ps.length)
    (hb : ∀ (kV doc pm : Value) (an : Option Addr) (cdv ct : Value) (us : List Value), us.length = ps.length → bindArgs (PySem.W.fnOf x qual (defArgs st) (defBody st) (defScope st) .none kV doc pm an cdv ct) ⟨us, []⟩ = pure (ps.zip us))
    (hbody : ∀ (cdv : Value) (A : Around) (outer : List Env) (s : Shared) (H : Hp) (vs : List V) (n : Nat) (it : Nat → V → Hp → Prop) (a : Addr) (g : Nat) (go : Obj), Room k (A.deeper (envOfC qual (defScope st) s.heap.objs.size f cdv)) → sp vs H n it →
      (GF.mkG PP w K mg base outer N (envOfC qual (defScope st) s.heap.objs.size f cdv) s.heap.objs.size a go n it A).Ok →
      ∃ t, GF.GSS (GF.mkG PP w K mg base outer N (envOfC qual (defScope st) s.heap.objs.size f cdv) s.heap.objs.size a go n it A) g (defBody st) t ∧ ∀ H1, GF.Kp H H1 → t { nx := fun j H0 _ H' => j = n ∧ Same H0 H', rt := fun j H0 H' => j = n ∧ Same H0 H' } 0 H1 (L2.start N vs) H1) :
    ∃ fd, GF.YFn PP w K mg base (k + 1) f fd ps sp ∧ Binds K fd ps [] := by
  obtain ⟨fd, F⟩ := F
  have b : Binds K fd ps [] := F.bindsN hb
  obtain ⟨oc, od, dV, kV, doc, pm, an, cdv, ct, osl, rfl, lk, hcd, hD, hK⟩ := F.ex
  exact ⟨_, GF.yfn_of lk hcd S noc len fun A outer s H vs n it a g go hr h ok => hbody cdv A outer s H vs n it a g go hr h ok, b⟩
theorem fdK {X : Cx} {e : Expr} {f : Str} {pos : Pos} {ta : TE} (K : PySem.W.Frag) (he : PE X e ta) (hb : attributeBase e f X.env (eval e X.env) = eval e X.env := by rfl) (hK : X.K = K := by rfl) : PE X (.Attribute e f pos) (tFld K ta f) := by
  subst hK
  exact pe_fld he hb
theorem pi_tupK {X : Cx} {tg l : Expr} {tl : TE} (K : PySem.W.Frag) (hl : PE X l tl) (hK : X.K = K := by rfl) : PI X tg l (iTup K tl) := by
  subst hK
  exact pi_tup hl
def tYTup (te : TE) : GF.TYR := fun σ H R => te σ H fun x H1 => ∃ a xs, x = .ref a ∧ H1 a = some (.tup xs) ∧ R xs.length (fun i => xs.getD i .non) H1
def tYRng (ta : TA) : GF.TYR := fun σ H R => ta σ H fun vs H1 => ∃ i j : Int, vs = [.int i, .int j] ∧ R (j - i).toNat (fun k => .int (i + k)) H1
theorem y_tup {X : Cx} {e : Expr} {te : TE} (he : PE X e te) : GF.YfR X e (tYTup te) := GF.yr_tup he
theorem y_rng {X : Cx} {a b : Expr} {ta : TA} {p pos : Pos} (hg : Gl X "range") (hm : X.mg "range" = none) (ha : PA X [a, b] ta) (hs : starEach [a, b] X.env = [(false, eval a X.env), (false, eval b X.env)] := by rfl) (hs2 : starEach [b] X.env = [(false, eval b X.env)] := by rfl) :
    GF.YfR X (.Call (.Name "range" p) [a, b] [] pos) (tYRng ta) := GF.yr_rng hg hm ha hs hs2
def itN (ns : List Nat) : Nat → V → Hp → Prop := fun i x _ => ∃ k, ns[i]? = some k ∧ x = sN k
def spTake (K : PySem.W.Frag) (b : Bool) : GF.SpY := fun vs H n it => ∃ (p : Addr) (q : Pl), vs = [.ref p] ∧ PileAt K H p q ∧ q.pn = b ∧ n = (nums q).length ∧ it = itN (nums q)
theorem ok_take_plain (T : Txt K mg) : ∃ fd, GF.YFn PP w K mg base 1 (a_Plain_each_take K) fd ["self"] (spTake K true) ∧ Binds K fd ["self"] [] := by
  have S : GScope ["self"] ["self"] (defScope s_Plain_each_take) := ⟨rfl, rfl, rfl, by decide +kernel, rfl, by decide +kernel, by decide +kernel⟩
  refine yfd T.f_Plain_each_take S (by decide +kernel) (fun vs H n it h => ?_) (fun _ _ _ _ _ _ us hl => match us, hl with | [_], _ => rfl) (fun cdv A outer s H vs n it a g go hr h ok => ?_)
  · obtain ⟨p, q, rfl, _⟩ := h; rfl
  · obtain ⟨p, q, rfl, hq, hb, rfl, rfl⟩ := h
    refine ⟨_, GF.yy_one (GF.y_from ok fun sr H0 => y_rng rfl T.z_range (pa_cons pe_int (pa_cons (pe_op op_add (fdK K (pv 0)) pe_int) pa_nil))), fun H1 k1 => ?_⟩
    obtain ⟨_, dx, e⟩ := pile_plain (hq.kp k1) hb
    have en : nums q = List.range' 1 q.n := by unfold nums; rw [hb]; rfl
    refine ⟨_, rfl, p, _, dx, _, _, rfl, e, T.c_Plain, T.n_Plain_size, rfl, _, _, rfl, rfl, _, _, rfl, ?_⟩
    have hl : (((q.n : Int) + 1) - 1).toNat = q.n := by omega
    rw [hl, en]
    have hlen : (List.range' 1 q.n).length = q.n := List.length_range'
    refine ⟨by rw [hlen]; show 0 + q.n ≤ q.n; omega, Same.refl _, fun i hi H2 => ⟨1 + i, ?_, ?_⟩, fun H0' H2 k2 s2 => ⟨by rw [hlen]; omega, s2⟩⟩
    · rw [Nat.zero_add, List.getElem?_range' hi]
      simp
    · show V.int (1 + (i : Int)) = sN (1 + i)
      unfold sN
      rw [Int.natCast_add]
      rfl
theorem ok_take_pile (T : Txt K mg) : ∃ fd, GF.YFn PP w K mg base 8 (a_Pile_each_take K) fd ["self"] (spTake K false) ∧ Binds K fd ["self"] [] := by
  have S : GScope ["self"] ["self"] (defScope s_Pile_each_take) := ⟨rfl, rfl, rfl, by decide +kernel, rfl, by decide +kernel, by decide +kernel⟩
  refine yfd T.f_Pile_each_take S (by decide +kernel) (fun vs H n it h => ?_) (fun _ _ _ _ _ _ us hl => match us, hl with | [_], _ => rfl) (fun cdv A outer s H vs n it a g go hr h ok => ?_)
  · obtain ⟨p, q, rfl, _⟩ := h; rfl
  · obtain ⟨p, q, rfl, hq, hb, rfl, rfl⟩ := h
    refine ⟨_, GF.yy_one (GF.y_from ok fun sr H0 => y_tup (c_meth (fdK K (pv 0)) T.c_Book T.m_Book_takes (ok_takes T) hr (pa_cons (fdK K (pv 0)) pa_nil))), fun H1 k1 => ?_⟩
    obtain ⟨hmax, h16, dx, b, e, hB⟩ := pile_book (hq.kp k1) hb
    obtain ⟨bkd, t0, us, qs, m', st, re, hbk, _⟩ := id hB
    have en : nums q = takesOf q.rs q.n := by unfold nums; rw [hb]; rfl
    refine ⟨_, rfl, p, _, dx, _, _, rfl, e, T.c_Pile, T.n_Pile_book, rfl, b, bkd, _, rfl, hbk, rfl, _, rfl, p, _, dx, _, _, rfl, e, T.c_Pile, T.n_Pile_size, rfl, ?_⟩
    refine ⟨b, q.rs, q.n, rfl, hmax, by omega, hB, fun t H' sm ft ht => ⟨t, _, rfl, ht, ?_⟩⟩
    rw [en, List.length_map]
    refine ⟨by show 0 + (takesOf q.rs q.n).length ≤ (takesOf q.rs q.n).length; omega, sm, fun i hi H2 => ⟨(takesOf q.rs q.n)[i], by rw [Nat.zero_add, List.getElem?_eq_getElem hi], ?_⟩, fun H0' H2 k2 s2 => ⟨by omega, s2⟩⟩
    show ((takesOf q.rs q.n).map sN).getD i .non = _
    rw [List.getD_eq_getElem?_getD, List.getElem?_map, List.getElem?_eq_getElem hi]
    rfl
end
end RW
end

/-! ## F18 -/
section
set_option Elab.async false
set_option linter.all false
set_option maxRecDepth 100000
set_option maxHeartbeats 4000000
namespace RW
open PySem PySem.Spec PyProof.Rows L2
/-- a generator's for, by a walk -/
theorem yfor_it {J : It} {n : Nat} {G : Hp → Prop} {Y : Nat → Hp → V → Hp → Prop} (w : Walk J n G Y) {gg : TG} {tb : GF.TY} {D : GF.GEn} {j : Nat} {H0 : Hp} {σ : L2.St} {H : Hp} (Pv : Nat → Nat → Hp → L2.St → Hp → Prop) (h0 : Pv 0 j H0 σ H) (hG : ∀ i j H0 σ H, i ≤ n → Pv i j H0 σ H → G H)
    (hs : ∀ i x j H0 σ H H', i < n → Pv i j H0 σ H → Y i H x H' → gg x σ H' fun σ2 H2 => tb { D with nx := Pv (i + 1), ct := Pv (i + 1), bk := D.nx } j H0 σ2 H2) (hd : ∀ j H0 σ H, Pv n j H0 σ H → D.nx j H0 σ H) :
    ∃ W : Nat → Nat → Nat → Hp → L2.St → Hp → Prop, (∃ m, W 0 m j H0 σ H) ∧ ∀ i m j H0 σ H, W i m j H0 σ H →
      (J.stop i H ∧ D.nx j H0 σ H) ∨ (J.go i H ∧ ∃ N : Nat → Hp → L2.St → Hp → Prop, (∀ j' H0' σ' H', N j' H0' σ' H' → ∃ m', m' < m ∧ W (i + 1) m' j' H0' σ' H') ∧ ∀ x H', J.yld i H x H' → gg x σ H' fun σ2 H2 => tb { D with nx := N, ct := N, bk := D.nx } j H0 σ2 H2) := by
  refine ⟨fun i m j H0 σ H => m = n - i ∧ i ≤ n ∧ Pv i j H0 σ H, ⟨n, by simp, Nat.zero_le _, h0⟩, ?_⟩
  rintro i m j H0 σ H ⟨rfl, hi, p⟩
  have q := hG i j H0 σ H hi p
  by_cases hlt : i < n
  · exact .inr ⟨w.goes i H hlt q, Pv (i + 1), fun j' H0' σ' H' p' => ⟨n - (i + 1), by omega, rfl, hlt, p'⟩, fun x H' y => hs i x j H0 σ H H' hlt p (w.yields i H x H' hlt q y)⟩
  · have : i = n := by omega
    subst this
    exact .inl ⟨w.stops H q, hd j H0 σ H p⟩
section
variable {w : World} {K : PySem.W.Frag} {mg : Str → Option Value} {base : Heap}
def toN (q : Pl) (v : Nat) : List Nat := if q.pn then (if v < q.n then [q.n - v] else []) else (takesOf q.rs q.n).filter fun k => g q.rs (q.n - k) == v
def spTo (K : PySem.W.Frag) (b : Bool) : GF.SpY := fun vs H n it => ∃ (p : Addr) (q : Pl) (v : Nat), vs = [.ref p, sN v] ∧ PileAt K H p q ∧ q.pn = b ∧ n = (toN q v).length ∧ it = itN (toN q v)
theorem ok_to_plain (T : Txt K mg) : ∃ fd, GF.YFn PP w K mg base 1 (a_Plain_each_take_to K) fd ["self", "worth"] (spTo K true) ∧ Binds K fd ["self", "worth"] [] := by
  have S : GScope ["self", "worth"] ["self", "worth"] (defScope s_Plain_each_take_to) := ⟨rfl, rfl, rfl, by decide +kernel, rfl, by decide +kernel, by decide +kernel⟩
  refine yfd T.f_Plain_each_take_to S (by decide +kernel) (fun vs H n it h => ?_) (fun _ _ _ _ _ _ us hl => match us, hl with | [_, _], _ => rfl) (fun cdv A outer s H vs n it a g go hr h ok => ?_)
  · obtain ⟨p, q, v, rfl, _⟩ := h; rfl
  · obtain ⟨p, q, v, rfl, hq, hb, rfl, rfl⟩ := h
    refine ⟨_, GF.yy_one (GF.y_if (fun sr H0 => pt_cmpR op_lt (pv 1) (fdK K (pv 0)) (nomark _)) (GF.yy_one (GF.y_yield ok fun sr H0 => pe_op op_sub (fdK K (pv 0)) (pv 1))) GF.yy_nil), fun H1 k1 => ?_⟩
    obtain ⟨_, dx, e⟩ := pile_plain (hq.kp k1) hb
    have en : toN q v = if v < q.n then [q.n - v] else [] := by unfold toN; rw [hb]; rfl
    refine ⟨_, rfl, _, rfl, p, _, dx, _, _, rfl, e, T.c_Plain, T.n_Plain_size, rfl, _, _, rfl, rfl, _, rfl, ?_⟩
    refine ite2 (fun h => ?_) (fun h => ?_)
    · have h := of_decide_eq_true h
      have h : v < q.n := by omega
      rw [if_pos h] at en
      refine ⟨_, rfl, p, _, dx, _, _, rfl, e, T.c_Plain, T.n_Plain_size, rfl, _, rfl, _, _, rfl, rfl, ?_, ?_, Same.refl _, fun H2 k2 => ⟨?_, Same.refl _⟩⟩
      · show 0 < (toN q v).length
        rw [en]; simp
      · show itN (toN q v) 0 (V.int ((q.n : Int) - (v : Int))) H1
        rw [en]
        refine ⟨q.n - v, rfl, ?_⟩
        show V.int ((q.n : Int) - (v : Int)) = _
        unfold sN
        congr 1
        omega
      · show 0 + 1 = (toN q v).length
        rw [en]; rfl
    · have h : ¬ v < q.n := fun z => h (decide_eq_true (by omega))
      rw [if_neg h] at en
      refine ⟨?_, Same.refl _⟩
      show 0 = (toN q v).length
      rw [en]; rfl
theorem filter_take {p : Nat → Bool} {l : List Nat} {i k : Nat} (h : l[i]? = some k) : (l.take (i + 1)).filter p = (l.take i).filter p ++ (if p k then [k] else []) := by
  rw [List.take_add_one, h, List.filter_append]
  congr 1
  show [k].filter p = _
  rw [List.filter_cons]
  rfl
theorem filter_pre {p : Nat → Bool} {l : List Nat} {i k : Nat} (h : l[i]? = some k) (hp : p k = true) : (l.filter p)[((l.take i).filter p).length]? = some k := by
  have e : l = l.take i ++ k :: l.drop (i + 1) := by
    have hi := (List.getElem?_eq_some_iff.mp h)
    obtain ⟨hi, hk⟩ := hi
    rw [← hk, List.getElem_cons_drop, List.take_append_drop]
  have e2 : l.filter p = (l.take i).filter p ++ k :: (l.drop (i + 1)).filter p := by
    conv => lhs; rw [e]
    rw [List.filter_append, List.filter_cons, if_pos hp]
  rw [e2, List.getElem?_append_right (Nat.le_refl _), Nat.sub_self]
  rfl
theorem ok_to_pile (T : Txt K mg) : ∃ fd, GF.YFn PP w K mg base 10 (a_Pile_each_take_to K) fd ["self", "worth"] (spTo K false) ∧ Binds K fd ["self", "worth"] [] := by
  have S : GScope ["self", "worth", "table", "number"] ["self", "worth"] (defScope s_Pile_each_take_to) := ⟨rfl, rfl, rfl, by decide +kernel, rfl, by decide +kernel, by decide +kernel⟩
  refine yfd T.f_Pile_each_take_to S (by decide +kernel) (fun vs H n it h => ?_) (fun _ _ _ _ _ _ us hl => match us, hl with | [_, _], _ => rfl) (fun cdv A outer s H vs n it a gg go hr h ok => ?_)
  · obtain ⟨p, q, v, rfl, _⟩ := h; rfl
  · obtain ⟨p, q, v, rfl, hq, hb, rfl, rfl⟩ := h
    have nd := S.nd
    refine ⟨_, GF.yy_cons (GF.y_ps fun sr H0 => ps_set (i := 2) nd rfl (.inl rfl) (c_meth0 (fdK K (pv 0)) T.c_Book T.m_Book_as_table (ok_as_table T) hr))
      (GF.yy_one (GF.y_for (fun sr H0 => pi_tupK K (c_meth (fdK K (pv 0)) T.c_Book T.m_Book_takes (ok_takes T) (hr.mono (by decide)) (pa_cons (fdK K (pv 0)) pa_nil))) (fun sr H0 => pg_name (i := 3) nd rfl (.inl rfl))
        (GF.yy_one (GF.y_if (fun sr H0 => pt_cmpR op_eq (c_meth (pv 2) T.c_Table T.m_Table_worth_at (ok_worth_at T) (hr.mono (by decide)) (pa_cons (pe_op op_sub (fdK K (pv 0)) (pv 3)) pa_nil)) (pv 1) (nomark _)) (GF.yy_one (GF.y_yield ok fun sr H0 => pv 3)) GF.yy_nil)))), fun H1 k1 => ?_⟩
    have hq1 := hq.kp k1
    obtain ⟨hmax, h16, dx, b, e, hB⟩ := pile_book hq1 hb
    obtain ⟨bkd, t0, us, qs, m', st, re, hbk, _⟩ := id hB
    have en : toN q v = (takesOf q.rs q.n).filter fun k => g q.rs (q.n - k) == v := by unfold toN; rw [hb]; rfl
    refine ⟨_, rfl, p, _, dx, _, _, rfl, e, T.c_Pile, T.n_Pile_book, rfl, b, bkd, _, rfl, hbk, rfl, b, q.rs, rfl, hB, fun t H2 fn sm2 ft hT hfn => ?_⟩
    have e2 := sm2 _ _ e
    have hbk2 := sm2 _ _ hbk
    have hB2 := hB.kp (GF.Same.kp sm2)
    refine ⟨_, rfl, p, _, dx, _, _, rfl, e2, T.c_Pile, T.n_Pile_book, rfl, b, bkd, _, rfl, hbk2, rfl, _, rfl, p, _, dx, _, _, rfl, e2, T.c_Pile, T.n_Pile_size, rfl, ?_⟩
    refine ⟨b, q.rs, q.n, rfl, hmax, by omega, hB2, fun tt H3 sm3 ftt htt => ⟨tt, rfl, ⟨_, .inl (.inl htt)⟩, ?_⟩⟩
    refine yfor_it (walk_tup (K := K) (a := tt) (xs := (takesOf q.rs q.n).map sN)) (fun i j H0 σ H' => Same H0 H' ∧ GF.Kp H3 H' ∧ j = (((takesOf q.rs q.n).take i).filter fun k => g q.rs (q.n - k) == v).length ∧ ∃ z, σ = [some (.ref p), some (sN v), some (.ref t), z])
      ⟨sm2.trans sm3, GF.Kp.refl _, rfl, none, rfl⟩ (fun i j H0 σ H' _ h => .inl (.inl (kpt h.2.1 htt))) ?_ ?_
    · rintro i x j H0 σ H' H'' hi ⟨s0, k3, hj, z, rfl⟩ ⟨rfl, hx⟩
      rw [List.getElem?_map] at hx
      cases ek : (takesOf q.rs q.n)[i]? with
      | none => rw [ek] at hx; cases hx
      | some k =>
        rw [ek] at hx
        cases hx
        have hk := takes_mem (hq.ok hb) (List.mem_of_getElem? ek)
        have kAll := (GF.Same.kp (sm2.trans sm3)).trans k3
        have e3 := kpi kAll e
        have hT3 := hT.kp ((GF.Same.kp sm3).trans k3)
        obtain ⟨dt, tt', ah, ag, htab, _⟩ := id hT3
        have hnk : V.int ((q.n : Int) - (k : Int)) = sN (q.n - k) := by unfold sN; congr 1; omega
        refine ⟨_, rfl, t, dt, _, rfl, htab, rfl, _, rfl, p, _, dx, _, _, rfl, e3, T.c_Pile, T.n_Pile_size, rfl, _, rfl, _, _, rfl, rfl, t, q.n - k, fn, by rw [← hnk], by omega, hT3, ?_⟩
        refine ⟨_, rfl, rfl, _, rfl, ?_⟩
        rw [hfn (q.n - k) (by omega)]
        have hdec : decide (sN (g q.rs (q.n - k)) = sN v) = (g q.rs (q.n - k) == v) := by
          by_cases h : g q.rs (q.n - k) = v
          · rw [h]; simp
          · rw [beq_false_of_ne h]
            refine decide_eq_false fun z => h ?_
            unfold sN at z
            injection z with z
            exact Int.ofNat.inj z
        rw [hdec]
        refine ite2 (fun h => ?_) (fun h => ?_)
        · refine ⟨_, rfl, ?_, ?_, s0, fun H4 k4 => ⟨Same.refl _, k3.trans k4, ?_, _, rfl⟩⟩
          · show j < (toN q v).length
            rw [hj, en]
            exact (List.getElem?_eq_some_iff.mp (filter_pre ek h)).1
          · show itN (toN q v) j (sN k) H''
            rw [hj, en]
            exact ⟨k, filter_pre ek h, rfl⟩
          · rw [filter_take ek, if_pos h, List.length_append, hj]
            rfl
        · refine ⟨s0, k3, ?_, _, rfl⟩
          rw [filter_take ek, if_neg h, List.append_nil]
          exact hj
    · rintro j H0 σ H' ⟨s0, k3, hj, z, rfl⟩
      refine ⟨?_, s0⟩
      rw [hj, List.length_map, List.take_length]
      show _ = (toN q v).length
      rw [en]
end
end RW
end

/-! ## F19 -/
section
set_option Elab.async false
set_option linter.all false
set_option maxRecDepth 100000
set_option maxHeartbeats 4000000
namespace RW
open PySem PySem.Spec PyProof.Rows L2
theorem yfn_up {P : Program} {w : World} {K : PySem.W.Frag} {mg : Str → Option Value} {base : Heap} {k k' : Nat} {f : Addr} {fd : FuncData} {ps : List Str} {sp : GF.SpY} (F : GF.YFn P w K mg base k f fd ps sp) (h : k ≤ k') : GF.YFn P w K mg base k' f fd ps sp := by
  refine ⟨F.len, fun A outer s H args us vs n it hr e0 hb r hsp => codeAny_mono (F.run A outer s H args us vs n it (hr.mono h) e0 hb r hsp) fun r s' hq => ?_⟩
  cases r with
  | error e => exact hq
  | ok fl =>
    cases fl with
    | ret u =>
      obtain ⟨h1, h2, h3, N, env, a, g, go, fp, gs, h4, h5, h5b, h6⟩ := hq
      exact ⟨h1, h2, h3, N, env, a, g, go, fp, gs, h4, h5, h5b, fun A' hr' hf' => h6 A' (hr'.mono h) hf'⟩
    | next => exact hq
    | brk => exact hq
    | cont => exact hq
def tOrY (t t' : GF.TGn) : GF.TGn := fun σ H R => t σ H R ∨ t' σ H R
theorem pgOr {X : Cx} {k : Nat} {e : Expr} {t t' : GF.TGn} (h : GF.PGn X k e t) (h' : GF.PGn X k e t') : GF.PGn X k e (tOrY t t') := h.or h'
/-- moves by a list of numbers for each pile -/
def mvT (f : Pl → List Nat) (qs : List Pl) (i : Nat) : List (Nat × Nat) := (List.range i).flatMap fun j => match qs[j]? with
  | some q => (f q).map fun k => (j, k)
  | none => []
theorem mvT_succ {f : Pl → List Nat} {qs : List Pl} {i : Nat} {q : Pl} (h : qs[i]? = some q) : mvT f qs (i + 1) = mvT f qs i ++ (f q).map fun k => (i, k) := by
  unfold mvT
  rw [List.range_succ, List.flatMap_append]
  congr 1
  simp [h]
def mvs (qs : List Pl) : List (Nat × Nat) := mvT nums qs qs.length
def wns (qs : List Pl) : List (Nat × Nat) := mvT (fun q => toN q (xo qs ^^^ wo q)) qs qs.length
def itM (ms : List (Nat × Nat)) : Nat → V → Hp → Prop := fun i x H => ∃ m, ms[i]? = some m ∧ mvV H x m
theorem itM_mono (ms : List (Nat × Nat)) : ∀ i x H H', GF.Kp H H' → itM ms i x H → itM ms i x H' := fun i x H H' k ⟨m, e, a, ea, h⟩ => ⟨m, e, a, ea, kpt k h⟩
theorem mvT_le {f : Pl → List Nat} {qs : List Pl} : ∀ {i n : Nat}, i ≤ n → ∃ r, mvT f qs n = mvT f qs i ++ r := by
  intro i n h
  refine ⟨(List.range' i (n - i)).flatMap fun j => match qs[j]? with
    | some q => (f q).map fun k => (j, k)
    | none => [], ?_⟩
  unfold mvT
  rw [← List.flatMap_append]
  congr 1
  rw [List.range_eq_range', List.range_eq_range']
  have := List.range'_append (s := 0) (m := i) (n := n - i) (step := 1)
  rw [Nat.one_mul, Nat.zero_add] at this
  rw [this]
  congr 1
  omega
theorem pg_tupK {X : Cx} {es : List Expr} {k : Nat} {pos : Pos} {t : TGs} (K : PySem.W.Frag) (n : Nat) (hc : X.calm = true) (h : PGs X es t) (hn : (assignEach es X.env).length = n := by rfl) (hst : (assignEach es X.env).findIdx? (·.1) = none := by rfl) (hK : X.K = K := by rfl) : PG X (.Tuple es k pos) (gTup K n t) := by
  subst hK
  exact pg_tup hc h hn hst
section
variable {w : World} {K : PySem.W.Frag} {mg : Str → Option Value} {base : Heap}
/-- the two loops, by what the inner one gives -/
theorem inner_step {f : Pl → List Nat} {qs : List Pl} {i : Nat} {q : Pl} (hi : qs[i]? = some q) {j n : Nat} (hn : i < n) (hj : j = (mvT f qs i).length) : j + (f q).length ≤ (mvT f qs n).length ∧
    (∀ (r : Nat) (x : V) (H2 : Hp) (tp : Addr), r < (f q).length → itN (f q) r x H2 → H2 tp = none → itM (mvT f qs n) (j + r) (.ref tp) (upd H2 tp (.tup [.int (i : Nat), x]))) ∧ j + (f q).length = (mvT f qs (i + 1)).length := by
  obtain ⟨r, e⟩ := mvT_le (f := f) (qs := qs) (show i + 1 ≤ n from hn)
  have e1 := mvT_succ (f := f) hi
  have hl : (mvT f qs (i + 1)).length = j + (f q).length := by rw [e1, List.length_append, List.length_map, hj]
  refine ⟨by rw [e, List.length_append, hl]; omega, fun k x H2 tp hk ⟨m, hm, ex⟩ htp => ⟨(i, m), ?_, tp, rfl, ?_⟩, hl.symm⟩
  · rw [e, List.getElem?_append_left (by omega), e1, List.getElem?_append_right (by omega), hj, Nat.add_sub_cancel_left, List.getElem?_map, hm]
    rfl
  · rw [upd_same, ex]
    rfl
def spMoves (K : PySem.W.Frag) : GF.SpY := fun vs H n it => ∃ (p : Addr) (qs : List Pl), vs = [.ref p] ∧ PosAt K H p qs ∧ n = (mvs qs).length ∧ it = itM (mvs qs)
theorem ok_moves (T : Txt K mg) : ∃ fd, GF.YFn PP w K mg base 10 (a_Position_moves K) fd ["self"] (spMoves K) ∧ Binds K fd ["self"] [] := by
  have S : GScope ["self", "index", "pile", "number"] ["self"] (defScope s_Position_moves) := ⟨rfl, rfl, rfl, by decide +kernel, rfl, by decide +kernel, by decide +kernel⟩
  obtain ⟨f1, Y1, b1⟩ := ok_take_pile (w := w) (base := base) T
  obtain ⟨f2, Y2, b2⟩ := ok_take_plain (w := w) (base := base) T
  have Y2 := yfn_up Y2 (show 1 ≤ 8 by decide)
  refine yfd T.f_Position_moves S (by decide +kernel) (fun vs H n it h => ?_) (fun _ _ _ _ _ _ us hl => match us, hl with | [_], _ => rfl) (fun cdv A outer s H vs n it a gg go hr h ok => ?_)
  · obtain ⟨p, qs, rfl, _⟩ := h; rfl
  · obtain ⟨p, qs, rfl, hq, rfl, rfl⟩ := h
    have nd := S.nd
    refine ⟨_, GF.yy_one (GF.y_for (fun sr H0 => pi_enumT T.z_enumerate (pa_cons (fdK K (pv 0)) pa_nil)) (fun sr H0 => pg_tupK K 2 rfl (pgs_cons (pg_name (i := 1) nd rfl (.inl rfl)) (pgs_cons (pg_name (i := 2) nd rfl (.inl rfl)) pgs_nil)))
      (GF.yy_one (GF.y_forY (ii := 1) (iy := 3) ok hr (fun sr H0 => pgOr (GF.pg_meth0 (pv 2) T.c_Pile T.m_Pile_each_take Y1 (hr.mono (by decide)) b1 .nil) (GF.pg_meth0 (pv 2) T.c_Plain T.m_Plain_each_take Y2 (hr.mono (by decide)) b2 .nil)) nd rfl rfl (by decide) rfl rfl))), fun H1 k1 => ?_⟩
    obtain ⟨hz, dx, t, us, hp, ht, hP⟩ := hq.kp k1
    refine ⟨_, rfl, p, _, dx, _, _, rfl, hp, T.c_Position, T.n_Position_piles, rfl, t, us, rfl, ht, ?_⟩
    refine yfor_it walk_enumT (fun i j H0 σ H' => Same H0 H' ∧ GF.Kp H1 H' ∧ j = (mvT nums qs i).length ∧ ∃ v1 v2 v3, σ = [some (.ref p), v1, v2, v3]) ⟨Same.refl _, GF.Kp.refl _, rfl, none, none, none, rfl⟩ (fun i j H0 σ H' _ h => kpt h.2.1 ht) ?_ ?_
    · rintro i x j H0 σ H' H'' hi ⟨s0, k3, hj, v1, v2, v3, rfl⟩ ⟨T1, y1, y2, rfl, hT, rfl, e1, e2⟩
      cases e1
      obtain ⟨c, q, er, rfl, hq⟩ := hP.at_ e2
      have sm' : Same H' (upd H' T1 (.tup [.int (i : Nat), .ref c])) := same_upd hT
      refine ⟨T1, _, rfl, .inl (.inl upd_same), rfl, _, _, rfl, _, _, rfl, rfl, ?_⟩
      have hq' := hq.kp (k3.trans (GF.Same.kp sm'))
      have hin : i < qs.length := (List.getElem?_eq_some_iff.mp er).1
      obtain ⟨i1, i2, i3⟩ := inner_step (f := nums) er hin hj
      refine ⟨_, rfl, ?_⟩
      cases hb : q.pn with
      | true =>
        obtain ⟨_, dq, e⟩ := pile_plain hq' hb
        refine .inr ⟨_, rfl, c, dq, _, rfl, e, rfl, (nums q).length, itN (nums q), ⟨c, q, rfl, hq', hb, rfl, rfl⟩, i1, s0.trans sm', i2, fun σ' H0' H2 hσ k4 s4 => ⟨s4, (k3.trans (GF.Same.kp sm')).trans k4, i3, ?_⟩⟩
        rcases hσ with rfl | ⟨v, rfl⟩
        · exact ⟨_, _, _, rfl⟩
        · exact ⟨_, _, _, rfl⟩
      | false =>
        obtain ⟨_, _, dq, b, e, _⟩ := pile_book hq' hb
        refine .inl ⟨_, rfl, c, dq, _, rfl, e, rfl, (nums q).length, itN (nums q), ⟨c, q, rfl, hq', hb, rfl, rfl⟩, i1, s0.trans sm', i2, fun σ' H0' H2 hσ k4 s4 => ⟨s4, (k3.trans (GF.Same.kp sm')).trans k4, i3, ?_⟩⟩
        rcases hσ with rfl | ⟨v, rfl⟩
        · exact ⟨_, _, _, rfl⟩
        · exact ⟨_, _, _, rfl⟩
    · rintro j H0 σ H' ⟨s0, k3, hj, v1, v2, v3, rfl⟩
      refine ⟨?_, s0⟩
      rw [hj, hP.1]
      rfl
end
end RW
end

/-! ## F20 -/
section
set_option Elab.async false
set_option linter.all false
set_option maxRecDepth 100000
set_option maxHeartbeats 4000000
namespace RW
open PySem PySem.Spec PyProof.Rows L2
section
variable {w : World} {K : PySem.W.Frag} {mg : Str → Option Value} {base : Heap}
def spWinning (K : PySem.W.Frag) : GF.SpY := fun vs H n it => ∃ (p : Addr) (qs : List Pl), vs = [.ref p] ∧ PosAt K H p qs ∧ n = (wns qs).length ∧ it = itM (wns qs)
theorem ok_winning (T : Txt K mg) : ∃ fd, GF.YFn PP w K mg base 13 (a_Position_winning K) fd ["self"] (spWinning K) ∧ Binds K fd ["self"] [] := by
  have S : GScope ["self", "whole", "index", "pile", "number"] ["self"] (defScope s_Position_winning) := ⟨rfl, rfl, rfl, by decide +kernel, rfl, by decide +kernel, by decide +kernel⟩
  obtain ⟨f1, Y1, b1⟩ := ok_to_pile (w := w) (base := base) T
  obtain ⟨f2, Y2, b2⟩ := ok_to_plain (w := w) (base := base) T
  have Y2 := yfn_up Y2 (show 1 ≤ 10 by decide)
  refine yfd T.f_Position_winning S (by decide +kernel) (fun vs H n it h => ?_) (fun _ _ _ _ _ _ us hl => match us, hl with | [_], _ => rfl) (fun cdv A outer s H vs n it a gg go hr h ok => ?_)
  · obtain ⟨p, qs, rfl, _⟩ := h; rfl
  · obtain ⟨p, qs, rfl, hq, rfl, rfl⟩ := h
    have nd := S.nd
    refine ⟨_, GF.yy_cons (GF.y_ps fun sr H0 => ps_set (i := 1) nd rfl (.inl rfl) (c_meth0 (pv 0) T.c_Position T.m_Position_its_worth (ok_pos_worth T) hr))
      (GF.yy_one (GF.y_for (fun sr H0 => pi_enumT T.z_enumerate (pa_cons (fdK K (pv 0)) pa_nil)) (fun sr H0 => pg_tupK K 2 rfl (pgs_cons (pg_name (i := 2) nd rfl (.inl rfl)) (pgs_cons (pg_name (i := 3) nd rfl (.inl rfl)) pgs_nil)))
      (GF.yy_one (GF.y_forY (ii := 2) (iy := 4) ok (hr.mono (by decide)) (fun sr H0 => pgOr
        (GF.pg_meth (pv 3) T.c_Pile T.m_Pile_each_take_to Y1 (hr.mono (by decide)) b1 .nil (pa_cons (pe_op op_xor (pv 1) (c_meth20 (pv 3) T.c_Pile T.m_Pile_its_worth (ok_pile_worth T) (hr.mono (by decide)) T.c_Plain T.m_Plain_its_worth (ok_plain_worth T) (hr.mono (by decide)))) pa_nil))
        (GF.pg_meth (pv 3) T.c_Plain T.m_Plain_each_take_to Y2 (hr.mono (by decide)) b2 .nil (pa_cons (pe_op op_xor (pv 1) (c_meth20 (pv 3) T.c_Pile T.m_Pile_its_worth (ok_pile_worth T) (hr.mono (by decide)) T.c_Plain T.m_Plain_its_worth (ok_plain_worth T) (hr.mono (by decide)))) pa_nil))) nd rfl rfl (by decide) rfl rfl)))), fun H1 k1 => ?_⟩
    have hq1 := hq.kp k1
    obtain ⟨hz, dx, t, us, hp, ht, hP⟩ := id hq1
    refine ⟨_, rfl, p, dx, _, rfl, hp, rfl, p, qs, rfl, hq1, fun Ha sa => ?_⟩
    have hpa := sa _ _ hp
    have hta := sa _ _ ht
    refine ⟨_, rfl, p, _, dx, _, _, rfl, hpa, T.c_Position, T.n_Position_piles, rfl, t, us, rfl, hta, ?_⟩
    refine yfor_it walk_enumT (fun i j H0 σ H' => Same H0 H' ∧ GF.Kp Ha H' ∧ j = (mvT (fun q => toN q (xo qs ^^^ wo q)) qs i).length ∧ ∃ v1 v2 v3, σ = [some (.ref p), some (sN (xo qs)), v1, v2, v3]) ⟨sa, GF.Kp.refl _, rfl, none, none, none, rfl⟩ (fun i j H0 σ H' _ h => kpt h.2.1 hta) ?_ ?_
    · rintro i x j H0 σ H' H'' hi ⟨s0, k3, hj, v1, v2, v3, rfl⟩ ⟨T1, y1, y2, rfl, hT, rfl, e1, e2⟩
      cases e1
      obtain ⟨c, q, er, rfl, hq⟩ := hP.at_ e2
      have sm' : Same H' (upd H' T1 (.tup [.int (i : Nat), .ref c])) := same_upd hT
      refine ⟨T1, _, rfl, .inl (.inl upd_same), rfl, _, _, rfl, _, _, rfl, rfl, ?_⟩
      have hq' := hq.kp (((GF.Same.kp sa).trans k3).trans (GF.Same.kp sm'))
      have hin : i < qs.length := (List.getElem?_eq_some_iff.mp er).1
      obtain ⟨i1, i2, i3⟩ := inner_step (f := fun q => toN q (xo qs ^^^ wo q)) er hin hj
      refine ⟨_, rfl, ?_⟩
      have hx : V.int (Builtin.bitXor (xo qs : Int) (wo q : Int)) = sN (xo qs ^^^ wo q) := by rw [bitXor_nat]; rfl
      cases hb : q.pn with
      | true =>
        obtain ⟨_, dq, e⟩ := pile_plain hq' hb
        refine .inr ⟨_, rfl, c, dq, _, rfl, e, rfl, _, rfl, _, rfl, pd2 (sp := fun b => spWo K b) hq' (by decide) ⟨c, q, rfl, hq', rfl, fun H2 sm2 => ⟨_, _, rfl, rfl, ?_⟩⟩⟩
        refine ⟨(toN q (xo qs ^^^ wo q)).length, itN (toN q (xo qs ^^^ wo q)), ⟨c, q, xo qs ^^^ wo q, ?_, hq'.kp (GF.Same.kp sm2), hb, rfl, rfl⟩, i1, (s0.trans sm').trans sm2, i2, fun σ' H0' H3 hσ k4 s4 => ⟨s4, ((k3.trans (GF.Same.kp sm')).trans (GF.Same.kp sm2)).trans k4, i3, ?_⟩⟩
        · rw [← hx]; rfl
        rcases hσ with rfl | ⟨v, rfl⟩
        · exact ⟨_, _, _, rfl⟩
        · exact ⟨_, _, _, rfl⟩
      | false =>
        obtain ⟨_, _, dq, b, e, _⟩ := pile_book hq' hb
        refine .inl ⟨_, rfl, c, dq, _, rfl, e, rfl, _, rfl, _, rfl, pd2 (sp := fun b => spWo K b) hq' (by decide) ⟨c, q, rfl, hq', rfl, fun H2 sm2 => ⟨_, _, rfl, rfl, ?_⟩⟩⟩
        refine ⟨(toN q (xo qs ^^^ wo q)).length, itN (toN q (xo qs ^^^ wo q)), ⟨c, q, xo qs ^^^ wo q, ?_, hq'.kp (GF.Same.kp sm2), hb, rfl, rfl⟩, i1, (s0.trans sm').trans sm2, i2, fun σ' H0' H3 hσ k4 s4 => ⟨s4, ((k3.trans (GF.Same.kp sm')).trans (GF.Same.kp sm2)).trans k4, i3, ?_⟩⟩
        · rw [← hx]; rfl
        rcases hσ with rfl | ⟨v, rfl⟩
        · exact ⟨_, _, _, rfl⟩
        · exact ⟨_, _, _, rfl⟩
    · rintro j H0 σ H' ⟨s0, k3, hj, v1, v2, v3, rfl⟩
      refine ⟨?_, s0⟩
      rw [hj, hP.1]
      rfl
end
end RW
end

/-! ## F21 -/
section
set_option Elab.async false
set_option linter.all false
set_option maxRecDepth 100000
set_option maxHeartbeats 4000000
namespace RW
open PySem PySem.Spec PyProof.Rows L2
/-- the first move -/
def fmv (qs : List Pl) : Option (Nat × Nat) := match wns qs with
  | m :: _ => some m
  | [] => (mvs qs).head?
section
variable {w : World} {K : PySem.W.Frag} {mg : Str → Option Value} {base : Heap}
def spFirst (K : PySem.W.Frag) : Sp := fun vs H Q _ => ∃ (p : Addr) (qs : List Pl), vs = [.ref p] ∧ PosAt K H p qs ∧ ∀ H', Same H H' → (∀ m x, fmv qs = some m → mvV H' x m → Q x H') ∧ (fmv qs = none → Q .non H')
theorem ok_first (T : Txt K mg) : F0 PP w K mg base 15 (a_first_move K) (spFirst K) := by
  have S : FnScope ["position", "move"] ["position"] (defScope s_first_move) := ⟨rfl, rfl, rfl, by decide +kernel, rfl, by decide +kernel, by decide +kernel⟩
  obtain ⟨f1, Y1, b1⟩ := ok_winning (w := w) (base := base) T
  obtain ⟨f2, Y2, b2⟩ := ok_moves (w := w) (base := base) T
  refine fd_ok T.f_first_move S (fun vs H Q E h => ?_) (fun _ _ _ _ _ _ us hl => match us, hl with | [_], _ => rfl) (fun cdv A outer s H vs Q E hr h => ?_)
  · obtain ⟨p, qs, rfl, _⟩ := h; rfl
  · obtain ⟨p, qs, rfl, hP, k⟩ := h
    have nd := S.nd
    refine ⟨_, pss_cons (GF.ps_forG1 PassesOwn.never hr (GF.pg_meth0 (pv 0) T.c_Position T.m_Position_winning Y1 (hr.mono (by decide)) b1 .nil) (pg_name (i := 1) nd rfl (.inl rfl)) (pss_one (ps_ret (pv 1))))
      (pss_cons (GF.ps_forG1 PassesOwn.never (hr.mono (by decide)) (GF.pg_meth0 (pv 0) T.c_Position T.m_Position_moves Y2 (hr.mono (by decide)) b2 .nil) (pg_name (i := 1) nd rfl (.inl rfl)) (pss_one (ps_ret (pv 1))))
      (pss_one (ps_ret pe_non))), ?_⟩
    obtain ⟨_, dx, t, us, hp, _⟩ := id hP
    refine ⟨_, rfl, p, dx, _, rfl, hp, rfl, (wns qs).length, itM (wns qs), ⟨p, qs, rfl, hP, rfl, rfl⟩, fun h0 H2 s2 => ?_, fun h0 x H2 s2 hx => ⟨_, rfl, ?_⟩⟩
    · have e0 : wns qs = [] := List.length_eq_zero_iff.mp h0
      have hP2 := hP.kp (GF.Same.kp s2)
      have ef : fmv qs = (mvs qs).head? := by unfold fmv; rw [e0]
      refine ⟨_, rfl, p, dx, _, rfl, s2 _ _ hp, rfl, (mvs qs).length, itM (mvs qs), ⟨p, qs, rfl, hP2, rfl, rfl⟩, fun h1 H3 s3 => ?_, fun h1 x H3 s3 hx => ⟨_, rfl, ?_⟩⟩
      · have e1 : mvs qs = [] := List.length_eq_zero_iff.mp h1
        exact (k H3 (s2.trans s3)).2 (by rw [ef, e1]; rfl)
      · obtain ⟨m, hm, hv⟩ := hx
        exact (k H3 (s2.trans s3)).1 m x (by rw [ef, List.head?_eq_getElem?]; exact hm) hv
    · obtain ⟨m, hm, hv⟩ := hx
      refine (k H2 s2).1 m x ?_ hv
      unfold fmv
      cases e : wns qs with
      | nil => rw [e] at hm; simp at hm
      | cons a l => rw [e] at hm; simp at hm; rw [hm]
/-! ### matches -/
def DoneAt (H : Hp) (us : List V) (ms : List (Nat × Nat)) : Prop := us.length = ms.length ∧ ∀ (i : Nat) (m : Nat × Nat), ms[i]? = some m → ∃ e mv ah, us[i]? = some (.ref e) ∧ H e = some (.tup [mv, ah]) ∧ mvV H mv m
theorem mvV.kp {H H' : Hp} {v : V} {m : Nat × Nat} (h : mvV H v m) (k : GF.Kp H H') : mvV H' v m := let ⟨a, e, h⟩ := h; ⟨a, e, kpt k h⟩
theorem DoneAt.kp {H H' : Hp} {us : List V} {ms : List (Nat × Nat)} (h : DoneAt H us ms) (k : GF.Kp H H') : DoneAt H' us ms := ⟨h.1, fun i m e => let ⟨a, mv, ah, e1, e2, e3⟩ := h.2 i m e; ⟨a, mv, ah, e1, kpt k e2, e3.kp k⟩⟩
abbrev gFs (s t : Addr) : List (Str × V) := [("stand", .ref s), ("done", .ref t)]
def MatchAt (K : PySem.W.Frag) (H : Hp) (p s : Addr) (qs : List Pl) (ms : List (Nat × Nat)) : Prop := ∃ (dx t : Addr) (us : List V), H p = some (.ins (kMatch K) dx (gFs s t)) ∧ PosAt K H s qs ∧ H t = some (.tup us) ∧ DoneAt H us ms
theorem MatchAt.kp {H H' : Hp} {p s : Addr} {qs : List Pl} {ms : List (Nat × Nat)} (h : MatchAt K H p s qs ms) (k : GF.Kp H H') : MatchAt K H' p s qs ms := let ⟨dx, t, us, h1, h2, h3, h4⟩ := h; ⟨dx, t, us, kpi k h1, h2.kp k, kpt k h3, h4.kp k⟩
def spMatch0 (K : PySem.W.Frag) : Sp := fun vs H Q _ => ∃ (p dx s : Addr) (qs : List Pl), vs = [.ref p, .ref s] ∧ H p = some (.ins (kMatch K) dx []) ∧ PosAt K H s qs ∧ ∀ H', SmX p H H' → MatchAt K H' p s qs [] → Q .non H'
/-- fields of no tracked thing below a match -/
structure Oth (fs : List (Str × V)) : Prop where
  pl : ∀ n v, fs ≠ pFs n v
  bk : ∀ m st re t, fs ≠ bFs m st re t
  rl : ∀ r, fs ≠ rFs r
  po : ∀ t : Addr, fs ≠ [(("piles" : Str), V.ref t)]
theorem Oth.nil : Oth [] := ⟨fun _ _ h => (nomatch h), fun _ _ _ _ h => (nomatch h), fun r h => rFs_ne r h.symm, fun _ h => (nomatch h)⟩
theorem Oth.stand {v : V} {r : List (Str × V)} : Oth (("stand", v) :: r) := by
  have nm : ∀ {x : Str} {u : V} {l : List (Str × V)}, (x == ("stand" : Str)) = false → (("stand" : Str), v) :: r ≠ (x, u) :: l := fun {x u l} hx h => by
    injection h with h _
    injection h with h _
    rw [← h] at hx
    simp at hx
  refine ⟨fun _ _ => nm (by decide), fun _ _ _ _ => nm (by decide), fun q => ?_, fun _ => nm (by decide)⟩
  unfold rFs
  split <;> exact nm (by decide)
section
variable {H H' : Hp} {p C dx : Addr} {fs : List (Str × V)}
theorem ins_ne {s C' dy : Addr} {gs : List (Str × V)} (hp : H p = some (.ins C dx fs)) (h : H s = some (.ins C' dy gs)) (hf : fs ≠ gs) : s ≠ p := by
  rintro rfl
  rw [hp] at h
  injection h with h
  injection h with _ _ h
  exact hf h
theorem RuleAt.oth {q : Addr} {r : Rl} (h : RuleAt K H q r) (hp : H p = some (.ins C dx fs)) (o : Oth fs) (k : SmX p H H') : RuleAt K H' q r := by
  obtain ⟨dy, e, ok⟩ := h
  exact ⟨dy, k _ _ (ins_ne hp e (o.rl r)) e, ok⟩
theorem BookAt.oth {b : Addr} {rs : List Rl} (h : BookAt K H b rs) (hp : H p = some (.ins C dx fs)) (o : Oth fs) (k : SmX p H H') : BookAt K H' b rs := by
  obtain ⟨dy, t, us, qs, m, st, re, h1, h2, h3, h4⟩ := h
  exact ⟨dy, t, us, qs, m, st, re, k _ _ (ins_ne hp h1 (o.bk _ _ _ _)) h1, k _ _ (tup_ne hp h2) h2, ⟨h3.1, fun i r e => let ⟨c, ec, hc⟩ := h3.2 i r e; ⟨c, ec, hc.oth hp o k⟩⟩, h4⟩
theorem PileAt.oth {q : Addr} {r : Pl} (h : PileAt K H q r) (hp : H p = some (.ins C dx fs)) (o : Oth fs) (k : SmX p H H') : PileAt K H' q r := by
  cases hb : r.pn with
  | true => obtain ⟨h1, _, e⟩ := pile_plain h hb; exact plain_at hb h1 (k _ _ (ins_ne hp e (o.pl _ _)) e)
  | false => obtain ⟨h1, h2, _, b, e, hB⟩ := pile_book h hb; exact book_at hb h1 h2 (k _ _ (ins_ne hp e (o.pl _ _)) e) (hB.oth hp o k)
theorem PosAt.oth {s : Addr} {qs : List Pl} (h : PosAt K H s qs) (hp : H p = some (.ins C dx fs)) (o : Oth fs) (k : SmX p H H') : PosAt K H' s qs := by
  obtain ⟨hz, dy, t, us, h1, h2, h3⟩ := h
  exact ⟨hz, dy, t, us, k _ _ (ins_ne hp h1 (o.po _)) h1, k _ _ (tup_ne hp h2) h2, ⟨h3.1, fun i r e => let ⟨q, e1, e2⟩ := h3.2 i r e; ⟨q, e1, e2.oth hp o k⟩⟩⟩
theorem mvV.oth {v : V} {m : Nat × Nat} (h : mvV H v m) (hp : H p = some (.ins C dx fs)) (k : SmX p H H') : mvV H' v m := let ⟨a, e, h⟩ := h; ⟨a, e, k _ _ (tup_ne hp h) h⟩
theorem DoneAt.oth {us : List V} {ms : List (Nat × Nat)} (h : DoneAt H us ms) (hp : H p = some (.ins C dx fs)) (k : SmX p H H') : DoneAt H' us ms := ⟨h.1, fun i m e => let ⟨a, mv, ah, e1, e2, e3⟩ := h.2 i m e; ⟨a, mv, ah, e1, k _ _ (tup_ne hp e2) e2, e3.oth hp k⟩⟩
end
theorem ok_match0 (T : Txt K mg) : F0 PP w K mg base 1 (a_Match_init K) (spMatch0 K) := by
  have S : FnScope ["self", "position"] ["self", "position"] (defScope s_Match_init) := ⟨rfl, rfl, rfl, by decide +kernel, rfl, by decide +kernel, by decide +kernel⟩
  refine fd_ok T.f_Match_init S (fun vs H Q E h => ?_) (fun _ _ _ _ _ _ us hl => match us, hl with | [_, _], _ => rfl) (fun cdv A outer s H vs Q E hr h => ?_)
  · obtain ⟨p, dx, s, qs, rfl, _⟩ := h; rfl
  · obtain ⟨p, dx, s, qs, rfl, hp, hP, k⟩ := h
    obtain ⟨hz, dy, t, us, hs, _⟩ := id hP
    refine ⟨_, pss_cons (ps_if (pt_not (pt_val (c_isC (pv 1) T.z_isinstance T.g_Position))) (pss_one ps_never) pss_nil) (pss_cons (ps_fld (pv 0) (pv 1) rfl) (pss_one (ps_fld (pv 0) (pe_tup pa_nil) rfl))), ?_⟩
    refine ⟨_, rfl, _, true, tyI hs T.c_Position T.ty_Position, T.ki_Position_Position, _, rfl, ?_⟩
    refine iteF ⟨_, rfl, _, rfl, p, _, dx, _, rfl, hp, T.c_Match, T.n_Match_stand, by decide, ?_⟩
    refine ⟨by decide, fun e he => ?_⟩
    have nep : p ≠ e := fun z => by rw [← z, upd_same] at he; cases he
    refine ⟨_, rfl, p, _, dx, putF "stand" (.ref s) [], rfl, by rw [upd_ne nep]; exact upd_same, T.c_Match, T.n_Match_done, pl (by decide), ?_⟩
    · have ne : e ≠ p := fun z => by rw [z, upd_same] at he; cases he
      have sx : SmX p H (upd (upd (upd H p (.ins (kMatch K) dx (putF "stand" (.ref s) []))) e (.tup [])) p (.ins (kMatch K) dx (gFs s e))) := by
        intro c o hc e1
        rw [upd_ne hc]
        have nc : c ≠ e := fun z => by rw [← z, upd_ne hc, e1] at he; cases he
        rw [upd_ne nc, upd_ne hc]
        exact e1
      refine k _ sx ⟨dx, e, [], upd_same, hP.oth hp .nil sx, ?_, rfl, fun i m h => by simp at h⟩
      rw [upd_ne ne]
      exact upd_same
/-! what a match tells -/
def spPosition (K : PySem.W.Frag) : Sp := fun vs H Q _ => ∃ (p s : Addr) (qs : List Pl) (ms : List (Nat × Nat)), vs = [.ref p] ∧ MatchAt K H p s qs ms ∧ Q (.ref s) H
theorem ok_position (T : Txt K mg) : F0 PP w K mg base 1 (a_Match_position K) (spPosition K) := by
  have S : FnScope ["self"] ["self"] (defScope s_Match_position) := ⟨rfl, rfl, rfl, by decide +kernel, rfl, by decide +kernel, by decide +kernel⟩
  refine fd_ok T.f_Match_position S (fun vs H Q E h => ?_) (fun _ _ _ _ _ _ us hl => match us, hl with | [_], _ => rfl) (fun cdv A outer s H vs Q E hr h => ?_)
  · obtain ⟨p, s, qs, ms, rfl, _⟩ := h; rfl
  · obtain ⟨p, s, qs, ms, rfl, ⟨dx, t, us, hp, _⟩, k⟩ := h
    exact ⟨_, pss_one (ps_ret (pe_fld (pv 0) rfl)), _, rfl, p, _, dx, _, _, rfl, hp, T.c_Match, T.n_Match_stand, rfl, k⟩
def spMover (K : PySem.W.Frag) : Sp := fun vs H Q _ => ∃ (p s : Addr) (qs : List Pl) (ms : List (Nat × Nat)), vs = [.ref p] ∧ MatchAt K H p s qs ms ∧ Q (sN (ms.length % 2)) H
theorem ok_mover (T : Txt K mg) : F0 PP w K mg base 1 (a_Match_mover K) (spMover K) := by
  have S : FnScope ["self"] ["self"] (defScope s_Match_mover) := ⟨rfl, rfl, rfl, by decide +kernel, rfl, by decide +kernel, by decide +kernel⟩
  refine fd_ok T.f_Match_mover S (fun vs H Q E h => ?_) (fun _ _ _ _ _ _ us hl => match us, hl with | [_], _ => rfl) (fun cdv A outer s H vs Q E hr h => ?_)
  · obtain ⟨p, s, qs, ms, rfl, _⟩ := h; rfl
  · obtain ⟨p, s, qs, ms, rfl, ⟨dx, t, us, hp, _, ht, hD⟩, k⟩ := h
    refine ⟨_, pss_one (ps_ret (pe_op op_modN (pe_callB call_len_seq (by rfl) T.z_len PySem.boot_len (pa_cons (pe_fld (pv 0) rfl) pa_nil)) pe_int)), ?_⟩
    refine ⟨_, rfl, p, _, dx, _, _, rfl, hp, T.c_Match, T.n_Match_done, rfl, t, us, rfl, .inr (.inl (.inl ht)), _, _, rfl, rfl, (by show (2 : Int) ≠ 0; decide), ?_⟩
    rw [hD.1]
    have : V.int (Int.fmod (ms.length : Int) 2) = sN (ms.length % 2) := by rw [show (2 : Int) = ((2 : Nat) : Int) from rfl, fmN]; rfl
    rw [← this] at k
    exact k
def spLen (K : PySem.W.Frag) : Sp := fun vs H Q _ => ∃ (p s : Addr) (qs : List Pl) (ms : List (Nat × Nat)), vs = [.ref p] ∧ MatchAt K H p s qs ms ∧ Q (sN ms.length) H
theorem ok_mlen (T : Txt K mg) : F0 PP w K mg base 1 (a_Match_len K) (spLen K) := by
  have S : FnScope ["self"] ["self"] (defScope s_Match_len) := ⟨rfl, rfl, rfl, by decide +kernel, rfl, by decide +kernel, by decide +kernel⟩
  refine fd_ok T.f_Match_len S (fun vs H Q E h => ?_) (fun _ _ _ _ _ _ us hl => match us, hl with | [_], _ => rfl) (fun cdv A outer s H vs Q E hr h => ?_)
  · obtain ⟨p, s, qs, ms, rfl, _⟩ := h; rfl
  · obtain ⟨p, s, qs, ms, rfl, ⟨dx, t, us, hp, _, ht, hD⟩, k⟩ := h
    refine ⟨_, pss_one (ps_ret (pe_callB call_len_seq (by rfl) T.z_len PySem.boot_len (pa_cons (pe_fld (pv 0) rfl) pa_nil))), ?_⟩
    refine ⟨_, rfl, p, _, dx, _, _, rfl, hp, T.c_Match, T.n_Match_done, rfl, t, us, rfl, .inr (.inl (.inl ht)), ?_⟩
    rw [hD.1]
    exact k
def wnr (qs : List Pl) (n : Nat) : Nat := if xo qs ≠ 0 then n % 2 else 1 - n % 2
def spWinner (K : PySem.W.Frag) : Sp := fun vs H Q _ => ∃ (p s : Addr) (qs : List Pl) (ms : List (Nat × Nat)), vs = [.ref p] ∧ MatchAt K H p s qs ms ∧ ∀ H', Same H H' → Q (sN (wnr qs ms.length)) H'
theorem ok_winner (T : Txt K mg) : F0 PP w K mg base 14 (a_Match_winner K) (spWinner K) := by
  have S : FnScope ["self", "mover"] ["self"] (defScope s_Match_winner) := ⟨rfl, rfl, rfl, by decide +kernel, rfl, by decide +kernel, by decide +kernel⟩
  refine fd_ok T.f_Match_winner S (fun vs H Q E h => ?_) (fun _ _ _ _ _ _ us hl => match us, hl with | [_], _ => rfl) (fun cdv A outer s H vs Q E hr h => ?_)
  · obtain ⟨p, s, qs, ms, rfl, _⟩ := h; rfl
  · obtain ⟨p, s, qs, ms, rfl, ⟨dx, t, us, hp, hP, ht, hD⟩, k⟩ := h
    have nd := S.nd
    obtain ⟨hz, dy, tt, uu, hs, _⟩ := id hP
    refine ⟨_, pss_cons (ps_set (i := 1) nd rfl (.inl rfl) (pe_op op_modN (pe_callB call_len_seq (by rfl) T.z_len PySem.boot_len (pa_cons (pe_fld (pv 0) rfl) pa_nil)) pe_int))
      (pss_one (ps_ret (pe_ifExp (pt_val (c_meth0 (pe_fld (pv 0) rfl) T.c_Position T.m_Position_wins (ok_wins T) hr)) (pv 1) (pe_op op_sub pe_int (pv 1))))), ?_⟩
    refine ⟨_, rfl, p, _, dx, _, _, rfl, hp, T.c_Match, T.n_Match_done, rfl, t, us, rfl, .inr (.inl (.inl ht)), _, _, rfl, rfl, (by show (2 : Int) ≠ 0; decide), ?_⟩
    rw [hD.1]
    have e2 : V.int (Int.fmod (ms.length : Int) 2) = sN (ms.length % 2) := by rw [show (2 : Int) = ((2 : Nat) : Int) from rfl, fmN]; rfl
    refine ⟨_, rfl, p, _, dx, _, _, rfl, hp, T.c_Match, T.n_Match_stand, rfl, s, dy, _, rfl, hs, rfl, s, qs, rfl, hP, fun H' sm => ⟨_, rfl, ?_⟩⟩
    have k := k H' sm
    unfold wnr at k
    refine ite2 (fun h => ?_) (fun h => ?_)
    · have h : xo qs ≠ 0 := of_decide_eq_true h
      rw [if_pos h, ← e2] at k
      exact ⟨_, rfl, k⟩
    · have h : ¬ xo qs ≠ 0 := fun z => h (decide_eq_true z)
      rw [if_neg h] at k
      refine ⟨_, rfl, _, _, rfl, rfl, ?_⟩
      have e3 : Int.fmod (ms.length : Int) 2 = ((ms.length % 2 : Nat) : Int) := by rw [show (2 : Int) = ((2 : Nat) : Int) from rfl, fmN]
      have : V.int (1 - Int.fmod (ms.length : Int) 2) = sN (1 - ms.length % 2) := by rw [e3]; unfold sN; congr 1; omega
      rw [← this] at k
      exact k
end
end RW
end

/-! ## M2 -/
section
set_option Elab.async false
set_option linter.all false
set_option maxRecDepth 100000
set_option maxHeartbeats 4000000
namespace RW
open PySem PySem.Spec PyProof.Rows L2
def PsOk (qs : List Pl) : Prop := ∀ q ∈ qs, q.pn = false → ∀ r ∈ q.rs, r.Ok
theorem PosAt.psok {K : PySem.W.Frag} {H : Hp} {s : Addr} {qs : List Pl} (h : PosAt K H s qs) : PsOk qs := by
  intro q hq hb
  obtain ⟨_, _, _, _, _, _, hP⟩ := h
  obtain ⟨i, hi, e⟩ := List.mem_iff_getElem.mp hq
  obtain ⟨c, _, hc⟩ := hP.2 i q (by rw [List.getElem?_eq_getElem hi, e])
  exact hc.ok hb
def Legal (qs : List Pl) (m : Nat × Nat) : Prop := ∃ q, qs[m.1]? = some q ∧ m.2 ∈ nums q
theorem mem_mvT {f : Pl → List Nat} {qs : List Pl} {m : Nat × Nat} : m ∈ mvT f qs qs.length ↔ ∃ q, qs[m.1]? = some q ∧ m.2 ∈ f q := by
  unfold mvT
  rw [List.mem_flatMap]
  constructor
  · rintro ⟨j, hj, h⟩
    cases e : qs[j]? with
    | none => rw [e] at h; simp at h
    | some q =>
      rw [e] at h
      obtain ⟨k, hk, rfl⟩ := List.mem_map.mp h
      exact ⟨q, e, hk⟩
  · rintro ⟨q, e, h⟩
    refine ⟨m.1, List.mem_range.mpr (List.getElem?_eq_some_iff.mp e).1, ?_⟩
    rw [e]
    exact List.mem_map.mpr ⟨m.2, h, rfl⟩
theorem toN_nums {q : Pl} {v k : Nat} (h : k ∈ toN q v) : k ∈ nums q := by
  unfold toN at h
  unfold nums
  by_cases hp : q.pn = true
  · rw [if_pos hp] at h ⊢
    by_cases hv : v < q.n
    · rw [if_pos hv] at h
      have : k = q.n - v := by simpa using h
      subst this
      rw [List.mem_range']
      exact ⟨q.n - v - 1, by omega, by omega⟩
    · rw [if_neg hv] at h
      simp at h
  · rw [if_neg hp] at h ⊢
    exact (List.mem_filter.mp h).1
theorem mem_mvs {qs : List Pl} {m : Nat × Nat} : m ∈ mvs qs ↔ Legal qs m := mem_mvT
theorem wns_legal {qs : List Pl} {m : Nat × Nat} (h : m ∈ wns qs) : Legal qs m := let ⟨q, e, h⟩ := mem_mvT.mp h; ⟨q, e, toN_nums h⟩
theorem fmv_legal {qs : List Pl} {m : Nat × Nat} (h : fmv qs = some m) : Legal qs m := by
  unfold fmv at h
  split at h
  · rename_i a l e
    cases h
    exact wns_legal (by rw [e]; exact List.mem_cons_self)
  · exact mem_mvs.mp (List.mem_of_head? h)
theorem aft_some {qs : List Pl} {m : Nat × Nat} {q : Pl} (h : qs[m.1]? = some q) : aft qs m = qs.set m.1 { q with n := q.n - m.2 } := by unfold aft; rw [h]
theorem aft_len (qs : List Pl) (m : Nat × Nat) : (aft qs m).length = qs.length := by
  unfold aft
  split
  · exact List.length_set
  · rfl
theorem aft_ok {qs : List Pl} {m : Nat × Nat} (o : PsOk qs) : PsOk (aft qs m) := by
  unfold aft
  split
  · rename_i q e
    intro r hr hb
    rcases List.mem_or_eq_of_mem_set hr with h | h
    · exact o r h hb
    · subst h
      exact o q (List.mem_of_getElem? e) hb
  · exact o
def tot (qs : List Pl) : Nat := (qs.map (·.n)).sum
theorem sum_set : ∀ {l : List Nat} {i a b : Nat}, l[i]? = some a → (l.set i b).sum + a = l.sum + b
  | [], _, _, _, h => by simp at h
  | x :: l, 0, a, b, h => by simp at h; subst h; simp; omega
  | x :: l, i + 1, a, b, h => by
    have := sum_set (l := l) (i := i) (a := a) (b := b) (by simpa using h)
    simp
    omega
theorem tot_aft {qs : List Pl} {m : Nat × Nat} (o : PsOk qs) (h : Legal qs m) : tot (aft qs m) < tot qs := by
  obtain ⟨q, e, hm⟩ := h
  have h2 := nums_mem (o q (List.mem_of_getElem? e)) hm
  rw [aft_some e]
  unfold tot
  rw [List.map_set]
  have := sum_set (l := qs.map (·.n)) (i := m.1) (a := q.n) (b := q.n - m.2) (by rw [List.getElem?_map, e]; rfl)
  simp only at this ⊢
  omega
/-! the whole play -/
def rndsN : Nat → List Pl → List (Nat × Nat)
  | 0, _ => []
  | n + 1, qs => match fmv qs with
    | none => []
    | some m => m :: rndsN n (aft qs m)
def rnds (qs : List Pl) : List (Nat × Nat) := rndsN (tot qs) qs
theorem rndsN_enough : ∀ {n k : Nat} {qs : List Pl}, PsOk qs → tot qs ≤ n → tot qs ≤ k → rndsN n qs = rndsN k qs := by
  intro n
  induction n with
  | zero =>
    intro k qs o h1 h2
    cases k with
    | zero => rfl
    | succ k =>
      show [] = match fmv qs with | none => [] | some m => m :: rndsN k (aft qs m)
      cases e : fmv qs with
      | none => rfl
      | some m => have := tot_aft o (fmv_legal e); omega
  | succ n ih =>
    intro k qs o h1 h2
    cases k with
    | zero =>
      show (match fmv qs with | none => [] | some m => m :: rndsN n (aft qs m)) = []
      cases e : fmv qs with
      | none => rfl
      | some m => have := tot_aft o (fmv_legal e); omega
    | succ k =>
      show (match fmv qs with | none => [] | some m => m :: rndsN n (aft qs m)) = match fmv qs with | none => [] | some m => m :: rndsN k (aft qs m)
      cases e : fmv qs with
      | none => rfl
      | some m =>
        have := tot_aft o (fmv_legal e)
        simp only
        rw [ih (k := k) (aft_ok o) (by omega) (by omega)]
theorem rnds_none {qs : List Pl} (h : fmv qs = none) : rnds qs = [] := by
  unfold rnds
  cases tot qs with
  | zero => rfl
  | succ n => show (match fmv qs with | none => [] | some m => m :: rndsN n (aft qs m)) = []; rw [h]
theorem rnds_some {qs : List Pl} {m : Nat × Nat} (o : PsOk qs) (h : fmv qs = some m) : rnds qs = m :: rnds (aft qs m) := by
  have ht := tot_aft o (fmv_legal h)
  unfold rnds
  cases e : tot qs with
  | zero => omega
  | succ n =>
    show (match fmv qs with | none => [] | some m => m :: rndsN n (aft qs m)) = _
    rw [h]
    simp only
    rw [rndsN_enough (aft_ok o) (by omega) (Nat.le_refl _)]
end RW
end

/-! ## F22 -/
section
set_option Elab.async false
set_option linter.all false
set_option maxRecDepth 100000
set_option maxHeartbeats 4000000
namespace RW
open PySem PySem.Spec PyProof.Rows L2
def MvsAt (H : Hp) (us : List V) (ms : List (Nat × Nat)) : Prop := us.length = ms.length ∧ ∀ (i : Nat) (m : Nat × Nat), ms[i]? = some m → ∃ x, us[i]? = some x ∧ mvV H x m
theorem MvsAt.kp {H H' : Hp} {us : List V} {ms : List (Nat × Nat)} (h : MvsAt H us ms) (k : GF.Kp H H') : MvsAt H' us ms := ⟨h.1, fun i m e => let ⟨x, e1, e2⟩ := h.2 i m e; ⟨x, e1, e2.kp k⟩⟩
theorem MvsAt.snoc {H : Hp} {us : List V} {ms : List (Nat × Nat)} {x : V} {m : Nat × Nat} (h : MvsAt H us ms) (hx : mvV H x m) : MvsAt H (us ++ [x]) (ms ++ [m]) := by
  have hl := h.1
  refine ⟨by simp [hl], fun i n e => ?_⟩
  by_cases hi : i < ms.length
  · rw [List.getElem?_append_left hi] at e
    obtain ⟨y, e1, e2⟩ := h.2 i n e
    exact ⟨y, by rw [List.getElem?_append_left (by omega)]; exact e1, e2⟩
  · rw [List.getElem?_append_right (by omega)] at e
    have : i - ms.length = 0 := by
      cases q : i - ms.length with
      | zero => rfl
      | succ j => rw [q] at e; simp at e
    rw [this] at e
    have e : m = n := by simpa using e
    subst e
    have : i = us.length := by omega
    subst this
    exact ⟨x, by simp, hx⟩
section
variable {w : World} {K : PySem.W.Frag} {mg : Str → Option Value} {base : Heap}
theorem pl_sz (T : Txt K mg) {H : Hp} {p : Addr} {q : Pl} (h : PileAt K H p q) : ∃ C dx fs, H p = some (.ins C dx fs) ∧ Cls K C ∧ NoAttr K C "size" ∧ fs.lookup ("size" : Str) = some (sN q.n) := by
  cases hd : q.pn with
  | true => obtain ⟨_, dx, h⟩ := pile_plain h hd; exact ⟨_, dx, _, h, T.c_Plain, T.n_Plain_size, rfl⟩
  | false => obtain ⟨_, _, dx, b, h, _⟩ := pile_book h hd; exact ⟨_, dx, _, h, T.c_Pile, T.n_Pile_size, rfl⟩
def spPast (K : PySem.W.Frag) : Sp := fun vs H Q _ => ∃ (p s : Addr) (qs : List Pl) (ms : List (Nat × Nat)), vs = [.ref p] ∧ MatchAt K H p s qs ms ∧ ms.length < 1000 ∧ ∀ t us H', Same H H' → H t = none → H' t = some (.tup us) → MvsAt H' us ms → Q (.ref t) H'
theorem ok_past (T : Txt K mg) : F0 PP w K mg base 1 (a_Match_past K) (spPast K) := by
  have S : FnScope ["self", "move", "ahead"] ["self"] (defScope s_Match_past) := ⟨rfl, rfl, rfl, by decide +kernel, rfl, by decide +kernel, by decide +kernel⟩
  refine fd_ok T.f_Match_past S (fun vs H Q E h => ?_) (fun _ _ _ _ _ _ us hl => match us, hl with | [_], _ => rfl) (fun cdv A outer s H vs Q E hr h => ?_)
  · obtain ⟨p, s, qs, ms, rfl, _⟩ := h; rfl
  · obtain ⟨p, s, qs, ms, rfl, ⟨dx, t, us, hp, hP, ht, hD⟩, hms, k⟩ := h
    have nd := S.nd
    refine ⟨_, pss_one (ps_ret (pe_callTy call_tuple_of (by rfl) T.z_tuple boot_tuple (pa_cons (pe_lc (own := [("move", 1), ("ahead", 2)]) (tt := tYes) rfl nd (pi_tup (pe_fld (pv 0) rfl))
      (blkOk_by (own := [("move", 1), ("ahead", 2)]) (N := ["self", "move", "ahead"]) (sc := defScope s_Match_past) (by decide +kernel)) (fun _ _ _ _ _ => pg_tupK K 2 rfl (pgs_cons (pg_name (i := 1) nd rfl (Or.inl rfl)) (pgs_cons (pg_name (i := 2) nd rfl (Or.inl rfl)) pgs_nil))) (fun _ _ _ _ _ => pts_nil) (fun _ _ _ _ _ => pv 1)) pa_nil))), ?_⟩
    refine ⟨_, rfl, p, _, dx, _, _, rfl, hp, T.c_Match, T.n_Match_done, rfl, t, rfl, ⟨_, .inl (.inl ht)⟩, fun D hD' => ?_⟩
    have nDt : D ≠ t := fun z => by rw [z, ht] at hD'; cases hD'
    refine lc_tup (K := K) (a := t) (xs := us) (fun i H' => ∃ ys, H' = upd H D (.lst ys) ∧ MvsAt H ys (ms.take i)) ⟨[], rfl, rfl, fun i m h => by simp at h⟩
      (fun i H' _ ⟨ys, e, _⟩ => by rw [e]; exact .inl (.inl (by rw [upd_ne (Ne.symm nDt)]; exact ht))) ?_ ?_
    · rintro i x H' hx ⟨ys, rfl, hy⟩
      have hi : i < ms.length := by rw [← hD.1]; exact (List.getElem?_eq_some_iff.mp hx).1
      obtain ⟨e, mv, ah, e1, e2, e3⟩ := hD.2 i ms[i] (List.getElem?_eq_getElem hi)
      rw [hx] at e1
      cases e1
      have nDe : D ≠ e := fun z => by rw [z, e2] at hD'; cases hD'
      refine ⟨e, _, rfl, .inl (.inl (by rw [upd_ne (Ne.symm nDe)]; exact e2)), rfl, _, _, rfl, _, _, rfl, rfl, rfl, _, rfl, _, upd_same, ?_, ys ++ [mv], ?_, ?_⟩
      · have := hy.1
        rw [List.length_take] at this
        exact small1000 (by omega)
      · rw [upd_upd]
      · rw [List.take_add_one, List.getElem?_eq_getElem hi]
        exact hy.snoc e3
    · rintro H' ⟨ys, rfl, hy⟩
      rw [hD.1, List.take_length] at hy
      refine ⟨D, ys, rfl, .inl ⟨.inl (.inl upd_same), fun q hq => ?_⟩⟩
      have s1 : Same H (upd (upd H D (.lst ys)) q (.tup ys)) := same_upd3 (same_upd hD') hq
      have nq : H q = none := (same_upd hD').free hq
      exact k q ys _ s1 nq upd_same (hy.kp (GF.Same.kp s1))
/-! take -/
def spMTake (K : PySem.W.Frag) : Sp := fun vs H Q _ => ∃ (p s : Addr) (qs : List Pl) (ms : List (Nat × Nat)) (m : Nat × Nat) (q : Pl), vs = [.ref p, sN m.1, sN m.2] ∧ MatchAt K H p s qs ms ∧ ms.length < 1000 ∧ qs[m.1]? = some q ∧ m.2 ∈ nums q ∧
  ∀ s' H', SmX p H H' → MatchAt K H' p s' (aft qs m) (ms ++ [m]) → Q .non H'
theorem ok_mtake (T : Txt K mg) : F0 PP w K mg base 11 (a_Match_take K) (spMTake K) := by
  have S : FnScope ["self", "index", "k", "later"] ["self", "index", "k"] (defScope s_Match_take) := ⟨rfl, rfl, rfl, by decide +kernel, rfl, by decide +kernel, by decide +kernel⟩
  refine fd_ok T.f_Match_take S (fun vs H Q E h => ?_) (fun _ _ _ _ _ _ us hl => match us, hl with | [_, _, _], _ => rfl) (fun cdv A outer s H vs Q E hr h => ?_)
  · obtain ⟨p, s, qs, ms, m, q, rfl, _⟩ := h; rfl
  · obtain ⟨p, s, qs, ms, ⟨i, n⟩, q, rfl, hM, hms, hi, hn, k⟩ := h
    have nd := S.nd
    obtain ⟨dx, t, us, hp, hP, ht, hD⟩ := id hM
    obtain ⟨hz, dy, tt, uu, hs, _⟩ := id hP
    refine ⟨_, pss_cons (ps_set (i := 3) nd rfl (.inl rfl) (c_meth (pe_fld (pv 0) rfl) T.c_Position T.m_Position_after (ok_after T) hr (pa_cons (pe_tup (pa_cons (pv 1) (pa_cons (pv 2) pa_nil))) pa_nil)))
      (pss_cons (ps_fld (pv 0) (pe_tup (StX.pa_star (pe_fld (pv 0) rfl) (pa_cons (pe_tup (pa_cons (pe_tup (pa_cons (pv 1) (pa_cons (pv 2) pa_nil))) (pa_cons (pe_fld (pv 0) rfl) pa_nil))) pa_nil))) rfl)
      (pss_one (ps_fld (pv 0) (pv 3) rfl))), ?_⟩
    refine ⟨_, rfl, p, _, dx, _, _, rfl, hp, T.c_Match, T.n_Match_stand, rfl, s, dy, _, rfl, hs, rfl, _, rfl, _, rfl, (by show 2 ≤ sizeLine; decide), fun a ha => ?_⟩
    have s1 := same_upd (o := .tup [sN i, sN n]) ha
    refine ⟨s, qs, .ref a, (i, n), q, rfl, hP.kp (GF.Same.kp s1), ⟨a, rfl, upd_same⟩, hi, hn, fun x H2 s2 hx hx2 => ?_⟩
    have s12 := s1.trans s2
    have hp2 := s12 _ _ hp
    have ht2 := s12 _ _ ht
    refine ⟨_, rfl, p, _, dx, _, _, rfl, hp2, T.c_Match, T.n_Match_done, rfl, t, _, rfl, .inl (.inl (.inl ht2)), ?_⟩
    refine ⟨_, rfl, _, rfl, (by show 2 ≤ sizeLine; decide), fun a2 ha2 => ?_⟩
    have s3 := same_upd (o := .tup [sN i, sN n]) ha2
    refine ⟨_, rfl, p, _, dx, _, _, rfl, s3 _ _ hp2, T.c_Match, T.n_Match_stand, rfl, (by show 2 ≤ sizeLine; decide), fun e he => ?_⟩
    have s4 := same_upd (o := .tup [.ref a2, .ref s]) he
    have hul := hD.1
    refine ⟨?_, fun f hf => ?_⟩
    · rw [List.length_append, List.length_cons, List.length_nil]
      exact Nat.le_trans (by omega : _ ≤ 2000) (by decide)
    have s5 := same_upd (o := .tup (us ++ [.ref e])) hf
    have sA := ((s12.trans s3).trans s4).trans s5
    have hpA := sA _ _ hp
    refine ⟨_, rfl, p, _, dx, _, rfl, hpA, T.c_Match, T.n_Match_done, by show 2 < 1000; decide, ?_⟩
    refine ⟨_, rfl, _, rfl, p, _, dx, _, rfl, upd_same, T.c_Match, T.n_Match_stand, by show 2 < 1000; decide, ?_⟩
    rw [upd_upd]
    have sx : SmX p H (upd (upd (upd (upd H2 a2 (.tup [sN i, sN n])) e (.tup [.ref a2, .ref s])) f (.tup (us ++ [.ref e]))) p (.ins (kMatch K) dx (gFs x f))) := (SmX.same sA).trans SmX.put
    have hf2 : (upd (upd (upd (upd H2 a2 (.tup [sN i, sN n])) e (.tup [.ref a2, .ref s])) f (.tup (us ++ [.ref e]))) p (.ins (kMatch K) dx (gFs x f))) f = some (.tup (us ++ [.ref e])) := by
      rw [upd_ne (tup_ne hpA upd_same)]
      exact upd_same
    have sB : SmX p H2 (upd (upd (upd (upd H2 a2 (.tup [sN i, sN n])) e (.tup [.ref a2, .ref s])) f (.tup (us ++ [.ref e]))) p (.ins (kMatch K) dx (gFs x f))) := (SmX.same ((s3.trans s4).trans s5)).trans SmX.put
    refine k x _ sx ⟨dx, f, us ++ [V.ref e], upd_same, hx2.oth hp2 .stand sB, hf2, ?_⟩
    have hDf := hD.oth hp sx
    have ee : (upd (upd (upd (upd H2 a2 (.tup [sN i, sN n])) e (.tup [.ref a2, .ref s])) f (.tup (us ++ [.ref e]))) p (.ins (kMatch K) dx (gFs x f))) e = some (.tup [.ref a2, .ref s]) := by
      have h1 := s5 _ _ (upd_same (H := upd H2 a2 (.tup [sN i, sN n])) (a := e) (o := .tup [.ref a2, .ref s]))
      rw [upd_ne (tup_ne hpA h1)]
      exact h1
    have e2 : (upd (upd (upd (upd H2 a2 (.tup [sN i, sN n])) e (.tup [.ref a2, .ref s])) f (.tup (us ++ [.ref e]))) p (.ins (kMatch K) dx (gFs x f))) a2 = some (.tup [sN i, sN n]) := by
      have h1 := (s4.trans s5) _ _ (upd_same (H := H2) (a := a2) (o := .tup [sN i, sN n]))
      rw [upd_ne (tup_ne hpA h1)]
      exact h1
    refine ⟨by simp [hul], fun j m hj => ?_⟩
    by_cases hjm : j < ms.length
    · rw [List.getElem?_append_left hjm] at hj
      obtain ⟨b, mv, ah, b1, b2, b3⟩ := hDf.2 j m hj
      exact ⟨b, mv, ah, by rw [List.getElem?_append_left (by omega)]; exact b1, b2, b3⟩
    · rw [List.getElem?_append_right (by omega)] at hj
      have : j - ms.length = 0 := by
        cases q : j - ms.length with
        | zero => rfl
        | succ z => rw [q] at hj; simp at hj
      rw [this] at hj
      have hj : (i, n) = m := by simpa using hj
      subst hj
      have : j = us.length := by omega
      subst this
      exact ⟨e, .ref a2, .ref s, by simp, ee, a2, rfl, e2⟩
end
end RW
end

/-! ## F23 -/
section
set_option Elab.async false
set_option linter.all false
set_option maxRecDepth 100000
set_option maxHeartbeats 4000000
namespace RW
open PySem PySem.Spec PyProof.Rows L2
section
variable {w : World} {K : PySem.W.Frag} {mg : Str → Option Value} {base : Heap}
/-! leave_at, m[i] = size -/
def spLeave (K : PySem.W.Frag) : Sp := fun vs H Q _ => ∃ (p s : Addr) (qs : List Pl) (ms : List (Nat × Nat)) (i z : Nat) (q : Pl), vs = [.ref p, sN i, sN z] ∧ MatchAt K H p s qs ms ∧ ms.length < 1000 ∧ qs[i]? = some q ∧ z ≤ q.n ∧ q.n - z ∈ nums q ∧
  ∀ s' H', SmX p H H' → MatchAt K H' p s' (aft qs (i, q.n - z)) (ms ++ [(i, q.n - z)]) → Q .non H'
theorem ok_leave (T : Txt K mg) : F0 PP w K mg base 12 (a_Match_leave_at K) (spLeave K) := by
  have S : FnScope ["self", "index", "size", "pile"] ["self", "index", "size"] (defScope s_Match_leave_at) := ⟨rfl, rfl, rfl, by decide +kernel, rfl, by decide +kernel, by decide +kernel⟩
  refine fd_ok T.f_Match_leave_at S (fun vs H Q E h => ?_) (fun _ _ _ _ _ _ us hl => match us, hl with | [_, _, _], _ => rfl) (fun cdv A outer s H vs Q E hr h => ?_)
  · obtain ⟨p, s, qs, ms, i, z, q, rfl, _⟩ := h; rfl
  · obtain ⟨p, s, qs, ms, i, z, q, rfl, hM, hms, hi, hz, hn, k⟩ := h
    have nd := S.nd
    obtain ⟨dx, t, us, hp, hP, ht, hD⟩ := id hM
    obtain ⟨hz20, dy, tt, uu, hs, _⟩ := id hP
    refine ⟨_, pss_cons (ps_set (i := 3) nd rfl (.inl rfl) (c_getitem T.m_Position_getitem T.fi_Position_getitem (ok_pos_get T) (hr.mono (by decide)) (pe_fld (pv 0) rfl) (pv 1)))
      (pss_cons (ps_if (PW.pt (pw_or (pt_not (pt_val (c_call (ok_is_integer T) (hr.mono (by decide)) T.g_is_integer T.f_is_integer.kp (pa_cons (pv 2) (pa_cons pe_int (pa_cons (pe_fld (pv 3) rfl) pa_nil))))))
        (pw_or1 (pt_not (pt_val (c_meth2 (pv 3) T.c_Pile T.m_Pile_lets (ok_lets T) (hr.mono (by decide)) T.c_Plain T.m_Plain_lets (ok_plain_lets T) (hr.mono (by decide)) (pa_cons (pe_op op_sub (pe_fld (pv 3) rfl) (pv 2)) pa_nil))))))) (pss_one ps_never) pss_nil)
      (pss_one (ps_expr (c_meth (pv 0) T.c_Match T.m_Match_take (ok_mtake T) hr (pa_cons (pv 1) (pa_cons (pe_op op_sub (pe_fld (pv 3) rfl) (pv 2)) pa_nil)))))), ?_⟩
    refine ⟨_, rfl, p, _, dx, _, _, rfl, hp, T.c_Match, T.n_Match_stand, rfl, _, rfl, s, dy, _, rfl, hs, s, qs, i, q, rfl, hP, hi, fun c hq => ?_⟩
    obtain ⟨C, dq, fs, e, cC, nC, lC⟩ := pl_sz T hq
    have hnum : V.int ((q.n : Int) - (z : Int)) = sN (q.n - z) := by unfold sN; congr 1; omega
    refine ⟨_, rfl, _, rfl, c, C, dq, fs, _, rfl, e, cC, nC, lC, _, _, _, rfl, ?_⟩
    rw [bd (by omega) (by omega)]
    refine ⟨true, rfl, ?_⟩
    refine iteF ⟨_, rfl, pd2 (sp := fun b => spLets K b) hq (by decide) ⟨_, rfl, c, C, dq, fs, _, rfl, e, cC, nC, lC, _, rfl, _, _, rfl, rfl, c, q, q.n - z, by rw [← hnum], hq, rfl, hn, fun H2 s2 => ?_⟩⟩
    refine ⟨true, rfl, ?_⟩
    refine iteF ⟨_, rfl, p, dx, _, rfl, s2 _ _ hp, rfl, _, rfl, _, rfl, c, C, dq, fs, _, rfl, s2 _ _ e, cC, nC, lC, _, rfl, _, _, rfl, rfl, p, s, qs, ms, (i, q.n - z), q, by rw [← hnum], hM.kp (GF.Same.kp s2), hms, hi, hn, fun s' H' sx hM' => ?_⟩
    exact k s' H' ((SmX.same s2).trans sx) hM'
theorem ok_msetitem (T : Txt K mg) : F0 PP w K mg base 13 (a_Match_setitem K) (spLeave K) := by
  have S : FnScope ["self", "index", "size"] ["self", "index", "size"] (defScope s_Match_setitem) := ⟨rfl, rfl, rfl, by decide +kernel, rfl, by decide +kernel, by decide +kernel⟩
  refine fd_ok T.f_Match_setitem S (fun vs H Q E h => ?_) (fun _ _ _ _ _ _ us hl => match us, hl with | [_, _, _], _ => rfl) (fun cdv A outer s H vs Q E hr h => ?_)
  · obtain ⟨p, s, qs, ms, i, z, q, rfl, _⟩ := h; rfl
  · obtain ⟨p, s, qs, ms, i, z, q, rfl, hM, hms, hi, hz, hn, k⟩ := h
    obtain ⟨dx, t, us, hp, _⟩ := id hM
    refine ⟨_, pss_one (ps_expr (c_meth (pv 0) T.c_Match T.m_Match_leave_at (ok_leave T) hr (pa_cons (pv 1) (pa_cons (pv 2) pa_nil)))), ?_⟩
    exact ⟨_, rfl, p, dx, _, rfl, hp, rfl, _, rfl, _, rfl, p, s, qs, ms, i, z, q, rfl, hM, hms, hi, hz, hn, k⟩
/-! rounds -/
def FmV (H : Hp) (x : V) (qs : List Pl) : Prop := (fmv qs = none ∧ x = .non) ∨ ∃ m, fmv qs = some m ∧ mvV H x m
theorem FmV.kp {H H' : Hp} {x : V} {qs : List Pl} (h : FmV H x qs) (k : GF.Kp H H') : FmV H' x qs := h.elim .inl fun ⟨m, e, v⟩ => .inr ⟨m, e, v.kp k⟩
def spFirst2 (K : PySem.W.Frag) : Sp := fun vs H Q _ => ∃ (p : Addr) (qs : List Pl), vs = [.ref p] ∧ PosAt K H p qs ∧ ∀ x H', Same H H' → FmV H' x qs → Q x H'
theorem ok_first2 (T : Txt K mg) : F0 PP w K mg base 15 (a_first_move K) (spFirst2 K) := (ok_first T).imp fun vs H Q E h => by
  obtain ⟨p, qs, e, hP, k⟩ := h
  exact ⟨p, qs, e, hP, fun H' s => ⟨fun m x hm hx => k x H' s (.inr ⟨m, hm, hx⟩), fun hn => k .non H' s (.inl ⟨hn, rfl⟩)⟩⟩
def spRounds (K : PySem.W.Frag) : GF.SpY := fun vs H n it => ∃ (p s : Addr) (qs : List Pl) (ms : List (Nat × Nat)), vs = [.ref p] ∧ MatchAt K H p s qs ms ∧ n = (rnds qs).length ∧ it = itM (rnds qs)
theorem ok_rounds (T : Txt K mg) : ∃ fd, GF.YFn PP w K mg base 16 (a_Match_rounds K) fd ["self"] (spRounds K) ∧ Binds K fd ["self"] [] := by
  have S : GScope ["self", "stand", "move"] ["self"] (defScope s_Match_rounds) := ⟨rfl, rfl, rfl, by decide +kernel, rfl, by decide +kernel, by decide +kernel⟩
  refine yfd T.f_Match_rounds S (by decide +kernel) (fun vs H n it h => ?_) (fun _ _ _ _ _ _ us hl => match us, hl with | [_], _ => rfl) (fun cdv A outer s H vs n it a gg go hr h ok => ?_)
  · obtain ⟨p, s, qs, ms, rfl, _⟩ := h; rfl
  · obtain ⟨p, s, qs, ms, rfl, hM, rfl, rfl⟩ := h
    have nd := S.nd
    refine ⟨_, GF.yy_cons (GF.y_ps fun sr H0 => ps_set (i := 1) nd rfl (.inl rfl) (fdK K (pv 0)))
      (GF.yy_cons (GF.y_ps fun sr H0 => ps_set (i := 2) nd rfl (.inl rfl) (c_call (ok_first2 T) hr T.g_first_move T.f_first_move.kp (pa_cons (pv 1) pa_nil)))
      (GF.yy_one (GF.y_while (fun sr H0 => pt_cmp (pc_notN (pv 2)) (nomark _))
        (GF.yy_cons (GF.y_yield ok fun sr H0 => pv 2)
        (GF.yy_cons (GF.y_ps fun sr H0 => ps_set (i := 1) nd rfl (.inl rfl) (c_meth (pv 1) T.c_Position T.m_Position_after (ok_after T) (hr.mono (by decide)) (pa_cons (pv 2) pa_nil)))
        (GF.yy_one (GF.y_ps fun sr H0 => ps_set (i := 2) nd rfl (.inl rfl) (c_call (ok_first2 T) hr T.g_first_move T.f_first_move.kp (pa_cons (pv 1) pa_nil))))))))), fun H1 k1 => ?_⟩
    obtain ⟨dx, t, us, hp, hP, _, _⟩ := hM.kp k1
    obtain ⟨hz, dy, tt, uu, hs, _⟩ := id hP
    refine ⟨_, rfl, p, _, dx, _, _, rfl, hp, T.c_Match, T.n_Match_stand, rfl, ?_⟩
    refine ⟨_, rfl, s, qs, rfl, hP, fun x H2 s2 hx => ?_⟩
    refine ⟨fun m j H0 σ H' => ∃ (qs' : List Pl) (sA : Addr) (mv : V), Same H0 H' ∧ PosAt K H' sA qs' ∧ FmV H' mv qs' ∧ σ = [some (.ref p), some (.ref sA), some mv] ∧ m = tot qs' ∧ (rnds qs).drop j = rnds qs' ∧ j ≤ (rnds qs).length,
      ⟨tot qs, qs, s, x, s2, hP.kp (GF.Same.kp s2), hx, rfl, rfl, rfl, Nat.zero_le _⟩, ?_⟩
    rintro m j H0 σ H' ⟨qs', sA, mv, s0, hP', hv, rfl, rfl, hd, hj⟩
    have o := hP'.psok
    rcases hv with ⟨hn, rfl⟩ | ⟨m, hm, hv⟩
    · refine ⟨_, rfl, false, rfl, ?_⟩
      refine iteF ⟨?_, s0⟩
      have e := rnds_none hn
      rw [e] at hd
      have := congrArg List.length hd
      rw [List.length_drop] at this
      show j = (rnds qs).length
      simp at this
      omega
    · have e := rnds_some o hm
      have hlt : j < (rnds qs).length := by
        rw [e] at hd
        have := congrArg List.length hd
        rw [List.length_drop, List.length_cons] at this
        omega
      have hjm : (rnds qs)[j]? = some m := by
        have : ((rnds qs).drop j)[0]? = some m := by rw [hd, e]; rfl
        rw [List.getElem?_drop] at this
        exact this
      obtain ⟨a', rfl, ha'⟩ := id hv
      refine ⟨_, rfl, true, rfl, ?_⟩
      refine iteT ⟨fun j' H0' σ' H'' => ∃ (sA : Addr) (mv : V), Same H0' H'' ∧ PosAt K H'' sA (aft qs' m) ∧ FmV H'' mv (aft qs' m) ∧ σ' = [some (.ref p), some (.ref sA), some mv] ∧ j' = j + 1, ?_, ?_⟩
      · rintro j' H0' σ' H'' ⟨sA', mv', h1, h2, h3, h4, rfl⟩
        refine ⟨tot (aft qs' m), tot_aft o (fmv_legal hm), aft qs' m, sA', mv', h1, h2, h3, h4, rfl, ?_, hlt⟩
        rw [← List.drop_drop, hd, e]
        rfl
      · refine ⟨_, rfl, hlt, ⟨m, hjm, hv⟩, s0, fun H3 k3 => ?_⟩
        have hP3 := hP'.kp k3
        obtain ⟨hz', dy', tt', uu', hs', _⟩ := id hP3
        obtain ⟨q, hq, hqn⟩ := fmv_legal hm
        refine ⟨_, rfl, sA, dy', _, rfl, hs', rfl, _, rfl, sA, qs', .ref a', m, q, rfl, hP3, hv.kp k3, hq, hqn, fun y H4 s4 hy hy2 => ?_⟩
        refine ⟨_, rfl, y, aft qs' m, rfl, hy2, fun z H5 s5 hz5 => ?_⟩
        exact ⟨y, z, s4.trans s5, hy2.kp (GF.Same.kp s5), hz5, rfl, rfl⟩
end
end RW
end

/-! ## F24 -/
section
set_option Elab.async false
set_option linter.all false
set_option maxRecDepth 100000
set_option maxHeartbeats 4000000
namespace RW
open PySem PySem.Spec PyProof.Rows L2
/-! ### the pen -/
def PenAt (H : Hp) (p c : Addr) (n : Nat) : Prop := ∃ (ns : List Int) (a gr : Nat), H p = some (.lst [.ref c, sN a, sN gr]) ∧ H c = some (.lst (ns.map V.int)) ∧ ns.length ≤ 63 ∧ a ≤ n
theorem PenAt.le {H : Hp} {p c : Addr} {n m : Nat} (h : PenAt H p c n) (hm : n ≤ m) : PenAt H p c m := let ⟨ns, a, gr, h1, h2, h3, h4⟩ := h; ⟨ns, a, gr, h1, h2, h3, Nat.le_trans h4 hm⟩
theorem pen_ne {H : Hp} {p c : Addr} {ns : List Int} {y z : V} {d : Addr} (h1 : H p = some (.lst [.ref d, y, z])) (h2 : H c = some (.lst (ns.map V.int))) : c ≠ p := by
  rintro rfl
  rw [h1] at h2
  cases ns with
  | nil => cases h2
  | cons a l => simp at h2
theorem PenAt.same {H H' : Hp} {p c : Addr} {n : Nat} (h : PenAt H p c n) (k : Same H H') : PenAt H' p c n := let ⟨ns, a, gr, h1, h2, h3, h4⟩ := h; ⟨ns, a, gr, k _ _ h1, k _ _ h2, h3, h4⟩
theorem PenAt.oth {H H' : Hp} {p c q C dx : Addr} {n : Nat} {fs : List (Str × V)} (h : PenAt H p c n) (hq : H q = some (.ins C dx fs)) (k : SmX q H H') : PenAt H' p c n := by
  obtain ⟨ns, a, gr, h1, h2, h3, h4⟩ := h
  have n1 : p ≠ q := fun z => by rw [z, hq] at h1; cases h1
  have n2 : c ≠ q := fun z => by rw [z, hq] at h2; cases h2
  exact ⟨ns, a, gr, k _ _ n1 h1, k _ _ n2 h2, h3, h4⟩
theorem int_sN {z : Int} (h : 0 ≤ z) : V.int z = sN z.toNat := by unfold sN; congr 1; omega
theorem fin_k {Q : VK} {p c : Addr} {n m : Nat} {G : Int} {H H' : Hp} (hm : 1 ≤ m) (k : ∀ (d : Nat) (H' : Hp), SmX p H H' → PenAt H' p c (n + 1) → d < m → Q (sN d) H') (sx : SmX p H H') (pa : PenAt H' p c (n + 1)) : Q (V.int (G % (m : Int))) H' := by
  have h0 : 0 ≤ G % (m : Int) := Int.emod_nonneg _ (by omega)
  have h1 : G % (m : Int) < (m : Int) := Int.emod_lt_of_pos _ (by omega)
  rw [int_sN h0]
  exact k _ H' sx pa (by omega)
theorem pen_put {H : Hp} {p c : Addr} {ns : List Int} {a n m : Nat} {G : Int} (hG : 0 ≤ G) (hc : H c = some (.lst (ns.map V.int))) (hne : c ≠ p) (h63 : ns.length ≤ 63) (ha : a ≤ n) : PenAt (upd H p (.lst [.ref c, sN a, V.int (G / (m : Int))])) p c n := by
  rw [int_sN (Int.ediv_nonneg hG (by omega))]
  exact ⟨ns, a, _, upd_same, by rw [upd_ne hne]; exact hc, h63, ha⟩
theorem pow1_ok (x : Int) {a : Nat} (h : a < 100000) : (x % 2147483549 + 54900 * (a : Int) + 1534).natAbs < 2 ^ 64 := by
  have h0 : 0 ≤ x % 2147483549 := Int.emod_nonneg _ (by decide)
  have h1 : x % 2147483549 < 2147483549 := Int.emod_lt_of_pos _ (by decide)
  omega
theorem pow2_ok (x : Int) {a : Nat} (h : a < 100000) : (x % 2147483629 * (2 * (a : Int) + 151) + 48830 * (a : Int) * (a : Int) + 68).natAbs < 2 ^ 64 := by
  have h0 : 0 ≤ x % 2147483629 := Int.emod_nonneg _ (by decide)
  have h1 : x % 2147483629 < 2147483629 := Int.emod_lt_of_pos _ (by decide)
  have p1 : x % 2147483629 * (2 * (a : Int) + 151) ≤ 2147483629 * (2 * (a : Int) + 151) := Int.mul_le_mul_of_nonneg_right (by omega) (by omega)
  have p2 : 0 ≤ x % 2147483629 * (2 * (a : Int) + 151) := Int.mul_nonneg h0 (by omega)
  have p3 : 48830 * (a : Int) * (a : Int) ≤ 48830 * (a : Int) * 100000 := Int.mul_le_mul_of_nonneg_left (by omega) (by omega)
  have p4 : 0 ≤ 48830 * (a : Int) * (a : Int) := Int.mul_nonneg (by omega) (by omega)
  omega
theorem md_l (x : Int) : -(2 ^ 64) < x % 2147483629 := by
  have h0 : 0 ≤ x % 2147483629 := Int.emod_nonneg _ (by decide)
  omega
theorem md_r (x : Int) : x % 2147483629 < 2 ^ 64 := by
  have h1 : x % 2147483629 < 2147483629 := Int.emod_lt_of_pos _ (by decide)
  omega
theorem log_m {m : Nat} (h : 1 ≤ m) (h2 : m < 2 ^ 100) : (m : Int).natAbs.log2 < 9000 := by
  rw [Int.natAbs_natCast]
  exact Nat.lt_trans ((Nat.log2_lt (by omega)).mpr h2) (by decide)
theorem great_nn {x : Int} {b : Bool} (h : decide ((10 : Int) ^ Int.toNat 18 ≤ if x < 0 then -x else x) = true) : 0 ≤ 2 * ((if x < 0 then -x else x) - 10 ^ Int.toNat 18) + (if b = true then 1 else 0) := by
  have h := of_decide_eq_true h
  have : (0 : Int) ≤ if b = true then 1 else 0 := by split <;> decide
  generalize (if x < 0 then -x else x) = y at *
  omega
theorem dInts {K : PySem.W.Frag} {H : Hp} : ∀ ns : List Int, DpAll K H (ns.map V.int) (ns.map PyData.int)
  | [] => .nil
  | n :: ns => .cons (.int n) (dInts ns)
theorem dInts_lay : ∀ ns : List Int, PyData.canLayAll0 (ns.map PyData.int) = true
  | [] => rfl
  | n :: ns => by
    show (PyData.canLay0 (.int n) && PyData.canLayAll0 (ns.map PyData.int)) = true
    rw [dInts_lay ns]
    rfl
theorem dInts_depth : ∀ ns : List Int, PyData.depthAll (ns.map PyData.int) = 0
  | [] => rfl
  | n :: ns => by
    show max (PyData.depth (.int n)) (PyData.depthAll (ns.map PyData.int)) = 0
    rw [dInts_depth ns]
    rfl
theorem dInts_shaped (ns : List Int) : SeqAt.shaped (.list (ns.map PyData.int)) = true := by
  show (PyData.canLayAll0 (ns.map PyData.int) && decide (PyData.depthAll (ns.map PyData.int) + 1 ≤ 64)) = true
  rw [dInts_lay, dInts_depth]
  rfl
section
variable {w : World} {K : PySem.W.Frag} {mg : Str → Option Value} {base : Heap}
def spPen (K : PySem.W.Frag) : Sp := fun vs H Q _ => ∃ (l : Addr) (ns : List Int), vs = [.ref l] ∧ SqL K H l (ns.map V.int) ∧ ∀ p c H', Same H H' → H p = none → PenAt H' p c 0 → Q (.ref p) H'
theorem cut63 (ns : List Int) : cutV (ns.map V.int) none (some 63) = (ns.take 63).map V.int := by
  unfold cutV
  rw [show (63 : Int) = ((63 : Nat) : Int) from rfl, HT.sIx_nat]
  show ((ns.map V.int).drop 0).take (min 63 _ - 0) = _
  rw [List.drop_zero, Nat.sub_zero, ← List.map_take]
  congr 1
  rw [List.length_map]
  by_cases h : ns.length ≤ 63
  · rw [Nat.min_eq_right h, List.take_of_length_le (Nat.le_refl _), List.take_of_length_le h]
  · rw [Nat.min_eq_left (by omega)]
theorem ok_pen (T : Txt K mg) : F0 PP w K mg base 1 (a_law_pen K) (spPen K) := by
  have S : FnScope ["_law_script"] ["_law_script"] (defScope s_law_pen) := ⟨rfl, rfl, rfl, by decide +kernel, rfl, by decide +kernel, by decide +kernel⟩
  refine fd_ok T.f_law_pen S (fun vs H Q E h => ?_) (fun _ _ _ _ _ _ us hl => match us, hl with | [_], _ => rfl) (fun cdv A outer s H vs Q E hr h => ?_)
  · obtain ⟨l, ns, rfl, _⟩ := h; rfl
  · obtain ⟨l, ns, rfl, hl, k⟩ := h
    refine ⟨_, pss_one (ps_ret (pe_lst (pa_cons (pe_callTy call_list_of (by rfl) T.z_list boot_list (pa_cons (pe_slice sl_list (pv 0) po_none (po_some pe_int)) pa_nil)) (pa_cons pe_int (pa_cons pe_int pa_nil))))), ?_⟩
    refine ⟨_, rfl, 63, rfl, l, _, rfl, hl, fun p1 hp1 => ⟨p1, _, rfl, .inl (.inl (.inl upd_same)), fun p2 hp2 => ?_⟩⟩
    rw [cut63] at hp2 ⊢
    have s1 := same_upd (o := .lst ((ns.take 63).map V.int)) hp1
    have s2 := same_upd3 (o := .lst ((ns.take 63).map V.int)) s1 hp2
    refine ⟨by show 3 ≤ sizeLine; decide, fun p3 hp3 => ?_⟩
    have s3 := same_upd3 (o := .lst [.ref p2, .int 0, .int 0]) s2 hp3
    have n32 : p2 ≠ p3 := fun z => by rw [← z, upd_same] at hp3; cases hp3
    exact k p3 p2 _ s3 (s2.free hp3) ⟨ns.take 63, 0, 0, upd_same, by rw [upd_ne n32]; exact upd_same, by rw [List.length_take]; omega, Nat.le_refl _⟩
/-! draw -/
def spDraw : Sp := fun vs H Q _ => ∃ (p c : Addr) (n m : Nat), vs = [.ref p, sN m] ∧ PenAt H p c n ∧ n < 100000 ∧ 1 ≤ m ∧ m < 2 ^ 100 ∧ ∀ d H', SmX p H H' → PenAt H' p c (n + 1) → d < m → Q (sN d) H'
theorem ok_draw (T : Txt K mg) : F0 PP w K mg base 1 (a_law_draw K) spDraw := by
  have S : FnScope ["_law_pen_here", "_law_many", "_law_digit", "_law_at", "_law_cell", "_law_great", "_law_mixed"] ["_law_pen_here", "_law_many"] (defScope s_law_draw) := ⟨rfl, rfl, rfl, by decide +kernel, rfl, by decide +kernel, by decide +kernel⟩
  refine fd_ok T.f_law_draw S (fun vs H Q E h => ?_) (fun _ _ _ _ _ _ us hl => match us, hl with | [_, _], _ => rfl) (fun cdv A outer s H vs Q E hr h => ?_)
  · obtain ⟨p, c, n, m, rfl, _⟩ := h; rfl
  · obtain ⟨p, c, n, m, rfl, ⟨ns, a, gr, hp, hc, h63, han⟩, hn, hm1, hm2, k⟩ := h
    have nd := S.nd
    refine ⟨_, pss_cons (ps_if (pt_cmpR op_gt (pe_ix ix_list (pv 0) pe_int (fun _ _ => rfl)) pe_int (nomark _))
        (pss_cons (ps_set (i := 2) nd rfl (.inl rfl) (pe_op op_mod (pe_callTy call_int1 (by rfl) T.z_int boot_int (pa_cons (pe_ix ix_list (pv 0) pe_int (fun _ _ => rfl)) pa_nil)) (pv 1)))
        (pss_cons (ps_asg (pe_op op_fdivW (pe_callTy call_int1 (by rfl) T.z_int boot_int (pa_cons (pe_ix ix_list (pv 0) pe_int (fun _ _ => rfl)) pa_nil)) (pv 1)) (pg_sub (pv 0) pe_int set_list))
        (pss_one (ps_ret (pv 2))))) pss_nil)
      (pss_cons (ps_set (i := 3) nd rfl (.inl rfl) (pe_ix ix_list (pv 0) pe_int (fun _ _ => rfl)))
      (pss_cons (ps_asg (pe_op op_add (pv 3) pe_int) (pg_sub (pv 0) pe_int set_list))
      (pss_cons (ps_set (i := 4) nd rfl (.inl rfl) (pe_op op_add (pe_op op_mul pe_int (pv 3)) pe_int))
      (pss_cons (ps_if (pt_cmpR (op_neD hr.units) (pe_ix ix_list (pv 0) pe_int (fun _ _ => rfl)) (pe_lst pa_nil) (nomark _))
        (pss_one (ps_set (i := 4) nd rfl (.inl rfl) (pe_ix ix_list (pe_ix ix_list (pv 0) pe_int (fun _ _ => rfl)) (pe_op op_mod (pe_callTy call_int1 (by rfl) T.z_int boot_int (pa_cons (pv 3) pa_nil)) (pe_callB call_len_seq (by rfl) T.z_len PySem.boot_len (pa_cons (pe_ix ix_list (pv 0) pe_int (fun _ _ => rfl)) pa_nil))) (fun _ _ => rfl)))) pss_nil)
      (pss_cons (ps_if (PW.pt (pw_and (pt_cmpR op_lt (pv 3) (pe_callB call_len_seq (by rfl) T.z_len PySem.boot_len (pa_cons (pe_ix ix_list (pv 0) pe_int (fun _ _ => rfl)) pa_nil)) (nomark _))
          (pw_and1 (pt_cmpR op_ge (pe_callB call_abs (by rfl) T.z_abs boot_abs (pa_cons (pv 4) pa_nil)) (pe_op op_pow pe_int pe_int) (nomark _)))))
        (pss_cons (ps_set (i := 5) nd rfl (.inl rfl) (pe_op op_add (pe_op op_mul pe_int (pe_op op_sub (pe_callB call_abs (by rfl) T.z_abs boot_abs (pa_cons (pv 4) pa_nil)) (pe_op op_pow pe_int pe_int))) (pe_callTy call_int1 (by rfl) T.z_int boot_int (pa_cons (pe_cmpR op_lt (pv 4) pe_int (nomark _)) pa_nil))))
        (pss_cons (ps_asg (pe_op op_fdivW (pe_callTy call_int1 (by rfl) T.z_int boot_int (pa_cons (pv 5) pa_nil)) (pv 1)) (pg_sub (pv 0) pe_int set_list))
        (pss_one (ps_ret (pe_op op_mod (pe_callTy call_int1 (by rfl) T.z_int boot_int (pa_cons (pv 5) pa_nil)) (pv 1)))))) pss_nil)
      (pss_cons (ps_set (i := 6) nd rfl (.inl rfl) (pe_op op_mod (pe_callTy call_int1 (by rfl) T.z_int boot_int (pa_cons (pe_op op_pow (pe_op op_add (pe_op op_add (pe_op op_mod (pe_callTy call_int1 (by rfl) T.z_int boot_int (pa_cons (pv 4) pa_nil)) pe_int) (pe_op op_mul pe_int (pv 3))) pe_int) pe_int) pa_nil)) pe_int))
      (pss_cons (ps_set (i := 6) nd rfl (.inl rfl) (pe_op op_mod (pe_callTy call_int1 (by rfl) T.z_int boot_int (pa_cons (pe_op op_pow (pe_op op_add (pe_op op_add (pe_op op_mul (pv 6) (pe_op op_add (pe_op op_mul pe_int (pv 3)) pe_int)) (pe_op op_mul (pe_op op_mul pe_int (pv 3)) (pv 3))) pe_int) pe_int) pa_nil)) pe_int))
      (pss_one (ps_ret (pe_op op_mod (pe_callTy call_int1 (by rfl) T.z_int boot_int (pa_cons (pe_op op_fdiv (pv 6) pe_int) pa_nil)) (pv 1))))))))))), ?_⟩
    have ncp : c ≠ p := pen_ne hp hc
    have hm0 : (m : Int) ≠ 0 := by omega
    refine ⟨_, rfl, p, _, _, sN gr, rfl, rfl, .inl (.inl hp), rfl, _, _, rfl, rfl, _, rfl, ?_⟩
    refine ite2 (fun hg => ?_) (fun _ => ?_)
    · refine ⟨_, rfl, p, _, _, sN gr, rfl, rfl, .inl (.inl hp), rfl, .inl ⟨_, rfl, _, rfl, _, _, rfl, rfl, by omega, ?_⟩⟩
      refine ⟨_, rfl, p, _, _, sN gr, rfl, rfl, .inl (.inl hp), rfl, .inl ⟨_, rfl, _, rfl, _, _, rfl, rfl, ⟨by omega, ?_⟩, ?_⟩⟩
      · exact log_m hm1 hm2
      have e1 : V.int ((gr : Int) / (m : Int)) = sN (gr / m) := rfl
      have e2 : V.int ((gr : Int) % (m : Int)) = sN (gr % m) := rfl
      refine ⟨_, rfl, p, _, 2, 2, rfl, rfl, hp, rfl, ?_⟩
      refine ⟨_, rfl, ?_⟩
      have pa : PenAt (upd H p (.lst [.ref c, sN a, sN (gr / m)])) p c (n + 1) := ⟨ns, a, gr / m, upd_same, by rw [upd_ne ncp]; exact hc, h63, by omega⟩
      exact k (gr % m) _ SmX.put pa (Nat.mod_lt _ (by omega))
    refine ⟨_, rfl, p, _, _, sN a, rfl, rfl, .inl (.inl hp), rfl, ?_⟩
    refine ⟨_, rfl, _, _, rfl, rfl, _, rfl, p, _, 1, 1, rfl, rfl, hp, rfl, ?_⟩
    have e1 : V.int ((a : Int) + 1) = sN (a + 1) := rfl
    have hp1 : (upd H p (.lst [.ref c, V.int ((a : Int) + 1), sN gr])) p = some (.lst [.ref c, sN (a + 1), sN gr]) := upd_same
    have hc1 : (upd H p (.lst [.ref c, V.int ((a : Int) + 1), sN gr])) c = some (.lst (ns.map V.int)) := by rw [upd_ne ncp]; exact hc
    have x1 : SmX p H (upd H p (.lst [.ref c, V.int ((a : Int) + 1), sN gr])) := SmX.put
    have pa1 : PenAt (upd H p (.lst [.ref c, V.int ((a : Int) + 1), sN gr])) p c (n + 1) := ⟨ns, a + 1, gr, hp1, hc1, h63, by omega⟩
    refine ⟨_, rfl, _, _, rfl, rfl, .inl ⟨by decide, by decide⟩, _, _, rfl, rfl, ?_⟩
    refine ⟨_, rfl, p, _, _, .ref c, rfl, rfl, .inl (.inl hp1), rfl, by show 0 ≤ sizeLine; decide, fun e he => ?_⟩
    have s2 := same_upd (o := .lst []) he
    have hp2 := s2 _ _ hp1
    have hc2 := s2 _ _ hc1
    refine ⟨.list (ns.map PyData.int), .list [], .lst (.inl (.inl hc2)) (dInts ns), .lst (.inl (.inl upd_same)) .nil, dInts_shaped ns, by decide +kernel, _, rfl, ?_⟩
    have x2 : SmX p H (upd (upd H p (.lst [.ref c, V.int ((a : Int) + 1), sN gr])) e (.lst [])) := x1.trans (SmX.same s2)
    have pa2 := pa1.same s2
    have enz : PyData.eqv (.list (ns.map PyData.int)) (.list []) = decide (ns = []) := by
      cases ns with
      | nil => rfl
      | cons a l => rfl
    rw [enz]
    refine ite2 (fun hne => ?_) (fun hne => ?_)
    have hnn : ns ≠ [] := fun z => by rw [z] at hne; simp at hne
    have hlp : 0 < ns.length := List.length_pos_iff.mpr hnn
    have hat : a % ns.length < ns.length := Nat.mod_lt _ hlp
    refine ⟨_, rfl, p, _, _, .ref c, rfl, rfl, .inl (.inl hp2), rfl, _, rfl, .inl ⟨_, rfl, _, rfl, p, _, _, .ref c, rfl, rfl, .inl (.inl hp2), rfl, c, _, rfl, .inl (.inl (.inl hc2)), _, _, rfl, rfl, by rw [List.length_map]; omega, c, _, _, V.int (ns[a % ns.length]), rfl, rfl, .inl (.inl hc2), ?_, ?_⟩⟩
    · rw [List.length_map]
      have : (a : Int) % (ns.length : Int) = ((a % ns.length : Nat) : Int) := rfl
      show atI (ns.map V.int) ((a : Int) % (ns.length : Int)) = _
      rw [this]
      refine atI_nat ?_
      rw [List.getElem?_map, List.getElem?_eq_getElem hat]
      rfl
    generalize (ns[a % ns.length] : Int) = cell
    rotate_left
    generalize ((65754 : Int) * (a : Int) + 1938) = cell
    all_goals
      refine ⟨_, rfl, _, rfl, p, _, _, .ref c, rfl, rfl, .inl (.inl hp2), rfl, c, _, rfl, .inl (.inl (.inl hc2)), _, _, rfl, rfl, _, rfl, ?_⟩
      refine ite2 (fun hlt => ?_) (fun _ => iteF ?_)
      refine ⟨_, rfl, _, rfl, _, _, rfl, rfl, ⟨by decide, by decide, by decide⟩, _, _, rfl, rfl, _, rfl, ?_⟩
      refine ite2 (fun hge => ?_) (fun _ => ?_)
      · refine ⟨_, rfl, _, rfl, _, _, rfl, rfl, ⟨by decide, by decide, by decide⟩, _, _, rfl, rfl, _, _, rfl, rfl, .inl ⟨by decide, by decide⟩, _, rfl, _, _, rfl, rfl, .inr ⟨_, rfl, _, _, rfl, rfl, ?_⟩⟩
        refine ⟨_, rfl, .inl ⟨_, rfl, _, rfl, _, _, rfl, rfl, ⟨by omega, log_m hm1 hm2⟩, ?_⟩⟩
        refine ⟨_, rfl, p, _, 2, 2, rfl, rfl, hp2, rfl, ?_⟩
        refine ⟨_, rfl, .inl ⟨_, rfl, _, rfl, _, _, rfl, rfl, by omega, ?_⟩⟩
        exact fin_k hm1 k (x2.trans SmX.put) (pen_put (great_nn hge) hc2 ncp h63 (by omega))
    all_goals
      refine ⟨_, rfl, .inl ⟨_, rfl, _, _, rfl, rfl, (by show (0 : Int) < 2147483549; decide), _, rfl, _, _, rfl, rfl, .inl ⟨by decide, by decide⟩, _, _, rfl, rfl, _, _, rfl, rfl, _, _, rfl, rfl, ⟨by decide, by decide, pow1_ok _ (by omega)⟩, .inl ⟨_, rfl, _, _, rfl, rfl, (by show (0 : Int) < 2147483629; decide), ?_⟩⟩⟩
      refine ⟨_, rfl, _, rfl, _, _, rfl, rfl, .inl ⟨by decide, by decide⟩, _, _, rfl, rfl, _, _, rfl, rfl, .inl ⟨md_l _, md_r _⟩, _, rfl, _, _, rfl, rfl, .inl ⟨by decide, by decide⟩, _, rfl, _, _, rfl, rfl, .inr ⟨by omega, by omega⟩, _, _, rfl, rfl, _, _, rfl, rfl, _, _, rfl, rfl, ⟨by decide, by decide, pow2_ok _ (by omega)⟩, .inl ⟨_, rfl, _, _, rfl, rfl, (by show (0 : Int) < 2147483587; decide), ?_⟩⟩
      refine ⟨_, rfl, _, _, rfl, rfl, ⟨by decide, by decide⟩, .inl ⟨_, rfl, _, rfl, _, _, rfl, rfl, by omega, ?_⟩⟩
      exact fin_k hm1 k x2 pa2
end
end RW
end

/-! ## F25 -/
section
set_option Elab.async false
set_option linter.all false
set_option maxRecDepth 100000
set_option maxHeartbeats 4000000
namespace RW
open PySem PySem.Spec PyProof.Rows L2
section
variable {w : World} {K : PySem.W.Frag} {mg : Str → Option Value} {base : Heap}
theorem pen_lst {H : Hp} {p c : Addr} {n : Nat} (h : PenAt H p c n) : ∃ xs, H p = some (.lst xs) := let ⟨_, _, _, h, _⟩ := h; ⟨_, h⟩
/-! pick -/
def spPick : Sp := fun vs H Q _ => ∃ (p c l : Addr) (xs : List V) (n : Nat), vs = [.ref p, .ref l] ∧ H l = some (.lst xs) ∧ l ≠ p ∧ 1 ≤ xs.length ∧ xs.length ≤ 1000 ∧ PenAt H p c n ∧ n < 100000 ∧
  ∀ (d : Nat) (v : V) (H' : Hp), SmX p H H' → PenAt H' p c (n + 1) → xs[d]? = some v → Q v H'
theorem ok_pick (T : Txt K mg) : F0 PP w K mg base 2 (a_law_pick K) spPick := by
  have S : FnScope ["_law_pen_here", "_law_some"] ["_law_pen_here", "_law_some"] (defScope s_law_pick) := ⟨rfl, rfl, rfl, by decide +kernel, rfl, by decide +kernel, by decide +kernel⟩
  refine fd_ok T.f_law_pick S (fun vs H Q E h => ?_) (fun _ _ _ _ _ _ us hl => match us, hl with | [_, _], _ => rfl) (fun cdv A outer s H vs Q E hr h => ?_)
  · obtain ⟨p, c, l, xs, n, rfl, _⟩ := h; rfl
  · obtain ⟨p, c, l, xs, n, rfl, hl, hne, h1, hz, hP, hn, k⟩ := h
    refine ⟨_, pss_one (ps_ret (pe_ix ix_list (pv 1) (c_call (ok_draw T) hr T.g_law_draw T.f_law_draw.kp (pa_cons (pv 0) (pa_cons (pe_callB call_len_seq (by rfl) T.z_len PySem.boot_len (pa_cons (pv 1) pa_nil)) pa_nil))) (fun _ _ => rfl))), ?_⟩
    refine ⟨_, rfl, _, rfl, _, rfl, l, xs, rfl, .inl (.inl (.inl hl)), p, c, n, xs.length, rfl, hP, hn, h1, Nat.lt_of_le_of_lt hz (by decide), fun d H' sx pa hd => ?_⟩
    refine ⟨l, xs, _, xs[d], rfl, rfl, .inl (.inl (sx _ _ hne hl)), atI_nat (List.getElem?_eq_getElem hd), ?_⟩
    exact k d _ H' sx pa (List.getElem?_eq_getElem hd)
/-! rules of rows -/
def wd (b : Bool) : Str := if b then "down" else "fixed"
def RowAt (H : Hp) (v : V) (r : Rl) : Prop := ∃ a, v = .ref a ∧ H a = some (.tup [.str (wd r.dn), sN r.nu, sN r.re, sN r.mo, sN r.le]) ∧ r.Ok
theorem RowAt.kp {H H' : Hp} {v : V} {r : Rl} (h : RowAt H v r) (k : GF.Kp H H') : RowAt H' v r := let ⟨a, e, h, o⟩ := h; ⟨a, e, kpt k h, o⟩
def RowsAt (H : Hp) (us : List V) (rs : List Rl) : Prop := us.length = rs.length ∧ ∀ (i : Nat) (r : Rl), rs[i]? = some r → ∃ v, us[i]? = some v ∧ RowAt H v r
theorem RowsAt.kp {H H' : Hp} {us : List V} {rs : List Rl} (h : RowsAt H us rs) (k : GF.Kp H H') : RowsAt H' us rs := ⟨h.1, fun i r e => let ⟨v, e1, e2⟩ := h.2 i r e; ⟨v, e1, e2.kp k⟩⟩
/-- one more -/
theorem snoc_at {α : Type} {R : V → α → Prop} {us : List V} {rs : List α} {x : V} {r : α} (hl : us.length = rs.length) (h : ∀ (i : Nat) (a : α), rs[i]? = some a → ∃ v, us[i]? = some v ∧ R v a) (hx : R x r) :
    (us ++ [x]).length = (rs ++ [r]).length ∧ ∀ (i : Nat) (a : α), (rs ++ [r])[i]? = some a → ∃ v, (us ++ [x])[i]? = some v ∧ R v a := by
  refine ⟨by simp [hl], fun i a e => ?_⟩
  by_cases hi : i < rs.length
  · rw [List.getElem?_append_left hi] at e
    obtain ⟨y, e1, e2⟩ := h i a e
    exact ⟨y, by rw [List.getElem?_append_left (by omega)]; exact e1, e2⟩
  · rw [List.getElem?_append_right (by omega)] at e
    have : i - rs.length = 0 := by
      cases q : i - rs.length with
      | zero => rfl
      | succ j => rw [q] at e; simp at e
    rw [this] at e
    have e : r = a := by simpa using e
    subst e
    have : i = us.length := by omega
    subst this
    exact ⟨x, by simp, hx⟩
def spRule (K : PySem.W.Frag) : Sp := fun vs H Q _ => ∃ (v : V) (r : Rl), vs = [v] ∧ RowAt H v r ∧ ∀ x H', Same H H' → H x = none → RuleAt K H' x r → Q (.ref x) H'
theorem ok_rule (T : Txt K mg) : F0 PP w K mg base 6 (a_law_rule K) (spRule K) := by
  have S : FnScope ["_law_row"] ["_law_row"] (defScope s_law_rule) := ⟨rfl, rfl, rfl, by decide +kernel, rfl, by decide +kernel, by decide +kernel⟩
  refine fd_ok T.f_law_rule S (fun vs H Q E h => ?_) (fun _ _ _ _ _ _ us hl => match us, hl with | [_], _ => rfl) (fun cdv A outer s H vs Q E hr h => ?_)
  · obtain ⟨v, r, rfl, _⟩ := h; rfl
  · obtain ⟨v, r, rfl, ⟨a, rfl, ha, o⟩, k⟩ := h
    have ix : ∀ {X : Cx}, True := fun {X} => trivial
    refine ⟨_, pss_cons (ps_if (pt_cmpR op_eq (pe_ix ix_tup (pv 0) pe_int (fun _ _ => rfl)) pe_str (nomark _))
        (pss_one (ps_ret (c_make T.mk_Down (ok_down0 T) hr T.g_Down (pa_cons (pe_ix ix_tup (pv 0) pe_int (fun _ _ => rfl)) (pa_cons (pe_ix ix_tup (pv 0) pe_int (fun _ _ => rfl)) (pa_cons (pe_ix ix_tup (pv 0) pe_int (fun _ _ => rfl)) pa_nil)))))) pss_nil)
      (pss_one (ps_ret (c_make T.mk_Fixed (ok_fixed0 T) hr T.g_Fixed (pa_cons (pe_ix ix_tup (pv 0) pe_int (fun _ _ => rfl)) (pa_cons (pe_ix ix_tup (pv 0) pe_int (fun _ _ => rfl)) (pa_cons (pe_ix ix_tup (pv 0) pe_int (fun _ _ => rfl)) (pa_cons (pe_ix ix_tup (pv 0) pe_int (fun _ _ => rfl)) pa_nil))))))), ?_⟩
    refine ⟨_, rfl, a, _, _, .str (wd r.dn), rfl, rfl, .inl (.inl ha), rfl, rfl, _, rfl, ?_⟩
    cases hd : r.dn with
    | true =>
      refine iteT ?_
      refine ⟨_, rfl, a, _, _, sN r.nu, rfl, rfl, .inl (.inl ha), rfl, _, rfl, a, _, _, sN r.re, rfl, rfl, .inl (.inl ha), rfl, _, rfl, a, _, _, sN r.mo, rfl, rfl, .inl (.inl ha), rfl, ?_⟩
      intro x dx hx hdx hne
      refine ⟨x, dx, r, hd, o, rfl, upd_same, fun H' hR hs => ⟨rfl, k x H' (fun b u e => ?_) hx hR⟩⟩
      rw [hs b (ne_of_none e hx)]
      exact same_upd3 (same_upd hdx) (by rw [upd_ne (Ne.symm hne)]; exact hx) _ _ e
    | false =>
      refine iteF ?_
      refine ⟨_, rfl, a, _, _, sN r.nu, rfl, rfl, .inl (.inl ha), rfl, _, rfl, a, _, _, sN r.re, rfl, rfl, .inl (.inl ha), rfl, _, rfl, a, _, _, sN r.mo, rfl, rfl, .inl (.inl ha), rfl, _, rfl, a, _, _, sN r.le, rfl, rfl, .inl (.inl ha), rfl, ?_⟩
      intro x dx hx hdx hne
      refine ⟨x, dx, r, hd, o, rfl, upd_same, fun H' hR hs => ⟨rfl, k x H' (fun b u e => ?_) hx hR⟩⟩
      rw [hs b (ne_of_none e hx)]
      exact same_upd3 (same_upd hdx) (by rw [upd_ne (Ne.symm hne)]; exact hx) _ _ e
def spLBook (K : PySem.W.Frag) : Sp := fun vs H Q _ => ∃ (l : Addr) (us : List V) (rs : List Rl), vs = [.ref l] ∧ H l = some (.lst us) ∧ RowsAt H us rs ∧ rs.length ≤ 2 ∧ ∀ b H', Same H H' → H b = none → BookAt K H' b rs → Q (.ref b) H'
theorem ok_lbook (T : Txt K mg) : F0 PP w K mg base 7 (a_law_book K) (spLBook K) := by
  have S : FnScope ["_law_rows_here", "_law_row"] ["_law_rows_here"] (defScope s_law_book) := ⟨rfl, rfl, rfl, by decide +kernel, rfl, by decide +kernel, by decide +kernel⟩
  refine fd_ok T.f_law_book S (fun vs H Q E h => ?_) (fun _ _ _ _ _ _ us hl => match us, hl with | [_], _ => rfl) (fun cdv A outer s H vs Q E hr h => ?_)
  · obtain ⟨l, us, rs, rfl, _⟩ := h; rfl
  · obtain ⟨l, us, rs, rfl, hl, hR, h2, k⟩ := h
    have nd := S.nd
    refine ⟨_, pss_one (ps_ret (c_cmeth (pe_cls T.g_Book) T.r_Book T.cm_Book_of (ok_book_of T) (hr.mono (by decide)) (pa_cons (pe_lc (own := [("_law_row", 1)]) (g := gName 1) (tt := tYes) rfl nd (pi_list (pv 0))
      (blkOk_by (own := [("_law_row", 1)]) (N := ["_law_rows_here", "_law_row"]) (sc := defScope s_law_book) (by decide +kernel)) (fun _ _ _ _ _ => pg_name (i := 1) nd rfl (Or.inl rfl)) (fun _ _ _ _ _ => pts_nil) (fun _ _ _ _ _ => c_call (ok_rule T) hr T.g_law_rule T.f_law_rule.kp (pa_cons (pv 1) pa_nil))) pa_nil))), ?_⟩
    refine ⟨rfl, _, rfl, l, rfl, ⟨us, .inl (.inl hl)⟩, fun D hD => ?_⟩
    have nDl : D ≠ l := (ne_of_none hl hD).symm
    refine lc_list (K := K) (a := l) (xs := us) (fun i H' => ∃ ys, SmX D H H' ∧ H' D = some (.lst ys) ∧ RulesAt K H' ys (rs.take i)) ⟨[], SmX.put, upd_same, rfl, fun i r e => by simp at e⟩
      (fun i H' _ ⟨ys, sx, _⟩ => .inl (.inl (sx _ _ (Ne.symm nDl) hl))) ?_ ?_
    · rintro i x H' hx ⟨ys, sx, hy, hY⟩
      have hi : i < rs.length := by rw [← hR.1]; exact (List.getElem?_eq_some_iff.mp hx).1
      obtain ⟨v, ev, hv⟩ := hR.2 i rs[i] (List.getElem?_eq_getElem hi)
      rw [hx] at ev
      cases ev
      have hv' := hv.kp (GF.Same.kp (sx.toSame hD))
      refine ⟨rfl, _, rfl, _, rs[i], rfl, hv', fun y H2 s2 hy0 hyR => ⟨ys, s2 _ _ hy, ?_, ys ++ [.ref y], ?_, upd_same, ?_⟩⟩
      · have := hY.1
        rw [List.length_take] at this
        exact small1000 (by omega)
      · exact (sx.trans (SmX.same s2)).trans SmX.put
      · have kL : GF.Kp H2 (upd H2 D (.lst (ys ++ [.ref y]))) := (SmX.put (o := .lst (ys ++ [.ref y]))).kp (s2 _ _ hy)
        rw [List.take_add_one, List.getElem?_eq_getElem hi]
        have hY2 := (hY.kp (GF.Same.kp s2)).kp kL
        exact snoc_at (R := fun v r => ∃ p, v = .ref p ∧ RuleAt K _ p r) hY2.1 (fun i a e => let ⟨p, e1, e2⟩ := hY2.2 i a e; ⟨.ref p, e1, p, rfl, e2⟩) ⟨y, rfl, hyR.kp kL⟩ |> fun h => ⟨h.1, fun i a e => by
          obtain ⟨v, e1, p, e2, e3⟩ := h.2 i a e
          exact ⟨p, by rw [e1, e2], e3⟩⟩
    · rintro H' ⟨ys, sx, hy, hY⟩
      rw [hR.1, List.take_length] at hY
      refine ⟨D, ys, rs, rfl, hy, hY, h2, fun b H2 s2 hb hB => k b H2 ((sx.toSame hD).trans s2) ((sx.toSame hD).free hb) hB⟩
end
end RW
end

/-! ## F26 -/
section
set_option Elab.async false
set_option linter.all false
set_option maxRecDepth 100000
set_option maxHeartbeats 4000000
namespace RW
open PySem PySem.Spec PyProof.Rows L2
section
variable {w : World} {K : PySem.W.Frag} {mg : Str → Option Value} {base : Heap}
def spRows (K : PySem.W.Frag) : Sp := fun vs H Q _ => ∃ (p c : Addr) (n : Nat), vs = [.ref p] ∧ PenAt H p c n ∧ n < 50000 ∧ ∀ (l : Addr) (us : List V) (rs : List Rl) (H' : Hp), SmX p H H' → H l = none → PenAt H' p c (n + 11) → H' l = some (.lst us) → RowsAt H' us rs → rs.length ≤ 2 → Q (.ref l) H'
theorem ok_rows (T : Txt K mg) : F0 PP w K mg base 3 (a_law_rows K) (spRows K) := by
  have S : FnScope ["_law_pen_here", "_law_found", "_law_k", "_law_turn_so", "_law_at_rest", "_law_word", "_law_kept"] ["_law_pen_here"] (defScope s_law_rows) := ⟨rfl, rfl, rfl, by decide +kernel, rfl, by decide +kernel, by decide +kernel⟩
  refine fd_ok T.f_law_rows S (fun vs H Q E h => ?_) (fun _ _ _ _ _ _ us hl => match us, hl with | [_], _ => rfl) (fun cdv A outer s H vs Q E hr h => ?_)
  · obtain ⟨p, c, n, rfl, _⟩ := h; rfl
  · obtain ⟨p, c, n, rfl, hP, hn, k⟩ := h
    have nd := S.nd
    refine ⟨_, pss_cons (ps_set (i := 1) nd rfl (.inl rfl) (pe_lst pa_nil))
      (pss_cons (ps_for PassesOwn.never rfl (pi_range1 rfl T.z_range (pa_cons (pe_op op_add pe_int (c_call (ok_draw T) (hr.mono (by decide)) T.g_law_draw T.f_law_draw.kp (pa_cons (pv 0) (pa_cons pe_int pa_nil)))) pa_nil)) (pg_name (i := 2) nd rfl (.inl rfl))
        (pss_cons (ps_set (i := 3) nd rfl (.inl rfl) (c_call (ok_pick T) hr T.g_law_pick T.f_law_pick.kp (pa_cons (pv 0) (pa_cons (pe_lst (pa_cons pe_int (pa_cons pe_int (pa_cons pe_int (pa_cons pe_int pa_nil))))) pa_nil))))
        (pss_cons (ps_set (i := 4) nd rfl (.inl rfl) (c_call (ok_draw T) (hr.mono (by decide)) T.g_law_draw T.f_law_draw.kp (pa_cons (pv 0) (pa_cons (pv 3) pa_nil))))
        (pss_cons (ps_set (i := 5) nd rfl (.inl rfl) (c_call (ok_pick T) hr T.g_law_pick T.f_law_pick.kp (pa_cons (pv 0) (pa_cons (pe_lst (pa_cons pe_str (pa_cons pe_str (pa_cons pe_str (pa_cons pe_str pa_nil))))) pa_nil))))
        (pss_cons (ps_set (i := 6) nd rfl (.inl rfl) (pe_ifExp (pt_cmpR op_eq (pv 5) pe_str (nomark _)) (c_call (ok_pick T) hr T.g_law_pick T.f_law_pick.kp (pa_cons (pv 0) (pa_cons (pe_lst (pa_cons pe_int (pa_cons pe_int (pa_cons pe_int (pa_cons pe_int pa_nil))))) pa_nil))) pe_int))
        (pss_one (ps_expr (pe_bm PySem.F.plainAttrs_list PySem.F.slot_list_append PySem.F.type_list_append mt_append (pv 1) (pa_cons (pe_tup (pa_cons (pv 5) (pa_cons
            (pe_op op_add (c_call (ok_draw T) (hr.mono (by decide)) T.g_law_draw T.f_law_draw.kp (pa_cons (pv 0) (pa_cons pe_int pa_nil))) (pe_callTy call_int1 (by rfl) T.z_int boot_int (pa_cons (pe_cmpR op_eq (pv 5) pe_str (nomark _)) pa_nil)))
            (pa_cons (pv 4) (pa_cons (pv 3) (pa_cons (pv 6) pa_nil)))))) pa_nil)))))))))
      (pss_one (ps_ret (pv 1)))), ?_⟩
    refine ⟨by decide, fun F hF => ?_⟩
    have s1 := same_upd (o := .lst []) hF
    have ncF : c ≠ F := fun z => by obtain ⟨_, _, _, _, e, _⟩ := hP; rw [← z, e] at hF; cases hF
    have hPF : p ≠ F := fun z => by obtain ⟨xs, e⟩ := pen_lst hP; rw [← z, e] at hF; cases hF
    refine ⟨_, rfl, p, c, n, 2, rfl, hP.same s1, by omega, by omega, by omega, fun d0 H1 x1 pa1 hd0 => ?_⟩
    refine ⟨_, _, rfl, rfl, ?_⟩
    have hF1 : H1 F = some (.lst []) := x1 _ _ (Ne.symm hPF) upd_same
    have hx1 : SmX p H H1 := (SmX.same s1).trans x1
    have h1d : V.int (1 + (d0 : Int)) = V.int ((1 + d0 : Nat) : Int) := by congr 1
    refine ⟨((1 + d0 : Nat) : Int), ?_, by omega, by omega, ?_⟩
    · rw [← h1d]
    rw [Int.toNat_natCast]
    refine for_range (lo := 0) (n := 1 + d0) (fun i σ H' => ∃ (us : List V) (rs : List Rl) (v1 v2 v3 v4 v5 : Option V), σ = [some (.ref p), some (.ref F), v1, v2, v3, v4, v5] ∧ SmX p H H' ∧ H' F = some (.lst us) ∧ RowsAt H' us rs ∧ rs.length = i ∧ PenAt H' p c (n + 1 + 5 * i))
      ⟨[], [], none, none, none, none, none, rfl, hx1, hF1, ⟨rfl, fun i r e => by simp at e⟩, rfl, pa1⟩ ?_ ?_
    · rintro i σ H2 hi ⟨us, rs, v1, v2, v3, v4, v5, rfl, x2, hF2, hR, hl, pa2⟩
      refine ⟨_, rfl, (by show 4 ≤ sizeLine; decide), fun e he => ?_⟩
      have se := same_upd (o := .lst [.int 1, .int 1, .int 2, .int 3]) he
      have nep : e ≠ p := fun z => by obtain ⟨xs, q⟩ := pen_lst pa2; rw [z, q] at he; cases he
      refine ⟨p, c, e, [.int 1, .int 1, .int 2, .int 3], n + 1 + 5 * i, rfl, upd_same, nep, by decide, by decide, pa2.same se, by omega, fun d v H3 x3 pa3 hv => ?_⟩
      obtain ⟨t, rfl, ht1, ht3⟩ : ∃ t : Nat, v = sN t ∧ 1 ≤ t ∧ t ≤ 3 := by
        match d, hv with
        | 0, hv => cases hv; exact ⟨1, rfl, by omega, by omega⟩
        | 1, hv => cases hv; exact ⟨1, rfl, by omega, by omega⟩
        | 2, hv => cases hv; exact ⟨2, rfl, by omega, by omega⟩
        | 3, hv => cases hv; exact ⟨3, rfl, by omega, by omega⟩
      refine ⟨_, rfl, _, rfl, p, c, _, t, rfl, pa3, by omega, ht1, by omega, fun re H4 x4 pa4 hre => ?_⟩
      have y4 : SmX p H2 H4 := ((SmX.same se).trans x3).trans x4
      refine ⟨_, rfl, (by show 4 ≤ sizeLine; decide), fun e2 he2 => ?_⟩
      have se2 := same_upd (o := .lst [.str "fixed", .str "fixed", .str "fixed", .str "down"]) he2
      have nep2 : e2 ≠ p := fun z => by obtain ⟨xs, q⟩ := pen_lst pa4; rw [z, q] at he2; cases he2
      refine ⟨p, c, e2, [.str "fixed", .str "fixed", .str "fixed", .str "down"], _, rfl, upd_same, nep2, by decide, by decide, pa4.same se2, by omega, fun d v H5 x5 pa5 hv => ?_⟩
      obtain ⟨b, rfl⟩ : ∃ b : Bool, v = .str (wd b) := by
        match d, hv with
        | 0, hv => cases hv; exact ⟨false, rfl⟩
        | 1, hv => cases hv; exact ⟨false, rfl⟩
        | 2, hv => cases hv; exact ⟨false, rfl⟩
        | 3, hv => cases hv; exact ⟨true, rfl⟩
      have y5 : SmX p H2 H5 := (y4.trans (SmX.same se2)).trans x5
      refine ⟨_, rfl, rfl, _, rfl, ?_⟩
      have hw : decide (V.str (wd b) = V.str "fixed") = !b := by cases b <;> decide
      cases b with
      | false =>
        refine iteT ?_
        refine ⟨_, rfl, (by show 4 ≤ sizeLine; decide), fun e3 he3 => ?_⟩
        have se3 := same_upd (o := .lst [.int 0, .int 0, .int 1, .int 2]) he3
        have nep3 : e3 ≠ p := fun z => by obtain ⟨xs, q⟩ := pen_lst pa5; rw [z, q] at he3; cases he3
        refine ⟨p, c, e3, [.int 0, .int 0, .int 1, .int 2], _, rfl, upd_same, nep3, by decide, by decide, pa5.same se3, by omega, fun d v H6 x6 pa6 hv => ?_⟩
        obtain ⟨le, rfl, hle⟩ : ∃ t : Nat, v = sN t ∧ t ≤ 2 := by
          match d, hv with
          | 0, hv => cases hv; exact ⟨0, rfl, by omega⟩
          | 1, hv => cases hv; exact ⟨0, rfl, by omega⟩
          | 2, hv => cases hv; exact ⟨1, rfl, by omega⟩
          | 3, hv => cases hv; exact ⟨2, rfl, by omega⟩
        have y6 : SmX p H2 H6 := (y5.trans (SmX.same se3)).trans x6
        have hFh : H6 F = some (.lst us) := y6 _ _ (Ne.symm hPF) hF2
        refine ⟨_, rfl, .inl ⟨rfl, _, .inl (.inl hFh)⟩, ?_⟩
        refine ⟨_, rfl, _, rfl, p, c, _, 3, rfl, pa6, by omega, by omega, by decide, fun d H7 x7 pa7 hd7 => ?_⟩
        have y7 : SmX p H2 H7 := y6.trans x7
        refine ⟨_, rfl, rfl, .inr ⟨_, rfl, _, _, rfl, rfl, ?_⟩⟩
        refine ⟨_, rfl, _, rfl, _, rfl, (by show 5 ≤ sizeLine; decide), fun tp htp => ?_⟩
        have s7 := same_upd (o := .tup [.str (wd false), sN (d + 1), sN re, sN t, sN le]) htp
        have hF7 : H7 F = some (.lst us) := y7 _ _ (Ne.symm hPF) hF2
        have ul : us.length ≤ 2 := by rw [hR.1]; omega
        have hF8 := s7 _ _ hF7
        refine ⟨F, us, .ref tp, rfl, rfl, hF8, small1000 (by omega), us ++ [.ref tp], rs ++ [⟨false, d + 1, re, t, le⟩], _, _, _, _, _, rfl, ?_, upd_same, ?_, by rw [List.length_append]; simp; omega, ?_⟩
        · intro z o hz ho
          have nzF : z ≠ F := ne_of_none ho hF
          rw [upd_ne nzF]
          exact s7 _ _ (y7 _ _ hz (x2 _ _ hz ho))
        · have kk : GF.Kp H2 (upd (upd H7 tp (.tup [.str (wd false), sN (d + 1), sN re, sN t, sN le])) F (.lst (us ++ [.ref tp]))) := by
            obtain ⟨xs, q⟩ := pen_lst pa2
            exact (y7.kp q).trans ((GF.Same.kp s7).trans ((SmX.put (o := .lst (us ++ [.ref tp]))).kp hF8))
          have hR2 := hR.kp kk
          refine snoc_at (R := fun v r => RowAt _ v r) hR2.1 hR2.2 ⟨tp, rfl, ?_, ⟨ht1, ht3, hre, by show d + 1 ≤ 3; omega, hle, (fun _ => by show 1 ≤ d + 1; omega), fun z => by cases z⟩⟩
          have : tp ≠ F := fun z => by rw [z, hF7] at htp; cases htp
          rw [upd_ne this]
          exact upd_same
        · have pz := (pa7.same s7).le (show _ ≤ n + 1 + 5 * (i + 1) by omega)
          obtain ⟨ns, a, gr, z1, z2, z3, z4⟩ := pz
          exact ⟨ns, a, gr, by rw [upd_ne hPF]; exact z1, by rw [upd_ne ncF]; exact z2, z3, z4⟩
      | true =>
        refine iteF ?_
        have hFh : H5 F = some (.lst us) := y5 _ _ (Ne.symm hPF) hF2
        refine ⟨_, rfl, .inl ⟨rfl, _, .inl (.inl hFh)⟩, ?_⟩
        refine ⟨_, rfl, _, rfl, p, c, _, 3, rfl, pa5, by omega, by omega, by decide, fun d H7 x7 pa7 hd7 => ?_⟩
        have y7 : SmX p H2 H7 := y5.trans x7
        refine ⟨_, rfl, rfl, .inr ⟨_, rfl, _, _, rfl, rfl, ?_⟩⟩
        refine ⟨_, rfl, _, rfl, _, rfl, (by show 5 ≤ sizeLine; decide), fun tp htp => ?_⟩
        have s7 := same_upd (o := .tup [.str (wd true), sN (d + 0), sN re, sN t, sN 0]) htp
        have hF7 : H7 F = some (.lst us) := y7 _ _ (Ne.symm hPF) hF2
        have ul : us.length ≤ 2 := by rw [hR.1]; omega
        have hF8 := s7 _ _ hF7
        refine ⟨F, us, .ref tp, rfl, rfl, hF8, small1000 (by omega), us ++ [.ref tp], rs ++ [⟨true, d + 0, re, t, 0⟩], _, _, _, _, _, rfl, ?_, upd_same, ?_, by rw [List.length_append]; simp; omega, ?_⟩
        · intro z o hz ho
          have nzF : z ≠ F := ne_of_none ho hF
          rw [upd_ne nzF]
          exact s7 _ _ (y7 _ _ hz (x2 _ _ hz ho))
        · have kk : GF.Kp H2 (upd (upd H7 tp (.tup [.str (wd true), sN (d + 0), sN re, sN t, sN 0])) F (.lst (us ++ [.ref tp]))) := by
            obtain ⟨xs, q⟩ := pen_lst pa2
            exact (y7.kp q).trans ((GF.Same.kp s7).trans ((SmX.put (o := .lst (us ++ [.ref tp]))).kp hF8))
          have hR2 := hR.kp kk
          refine snoc_at (R := fun v r => RowAt _ v r) hR2.1 hR2.2 ⟨tp, rfl, ?_, ⟨ht1, ht3, hre, by show d + 0 ≤ 3; omega, by show 0 ≤ 2; omega, (fun z => by cases z), fun _ => rfl⟩⟩
          have : tp ≠ F := fun z => by rw [z, hF7] at htp; cases htp
          rw [upd_ne this]
          exact upd_same
        · have pz := (pa7.same s7).le (show _ ≤ n + 1 + 5 * (i + 1) by omega)
          obtain ⟨ns, a, gr, z1, z2, z3, z4⟩ := pz
          exact ⟨ns, a, gr, by rw [upd_ne hPF]; exact z1, by rw [upd_ne ncF]; exact z2, z3, z4⟩
    · rintro σ H' ⟨us, rs, v1, v2, v3, v4, v5, rfl, x2, hF2, hR, hl, pa2⟩
      exact ⟨_, rfl, k F us rs H' x2 hF (pa2.le (by omega)) hF2 hR (by omega)⟩
end
end RW
end

/-! ## F27 -/
section
set_option Elab.async false
set_option linter.all false
set_option maxRecDepth 100000
set_option maxHeartbeats 4000000
namespace RW
open PySem PySem.Spec PyProof.Rows L2
def wp (b : Bool) : Str := if b then "plain" else "pile"
def HeapAt (H : Hp) (v : V) (q : Pl) (l : Addr) : Prop := ∃ a, v = .ref a ∧ H a = some (.tup [.str (wp q.pn), sN q.n, .ref l]) ∧ q.n ≤ 6 ∧ (q.pn = false → ∃ us, H l = some (.lst us) ∧ RowsAt H us q.rs ∧ q.rs.length ≤ 2)
theorem HeapAt.mv {H H' : Hp} {v : V} {q : Pl} {l : Addr} (ex : List Addr) (h : HeapAt H v q l) (hl : l ∉ ex) (he : ∀ b ∈ ex, ∀ o, H b = some o → GF.isL o = true) (k : ∀ b o, b ∉ ex → H b = some o → H' b = some o) : HeapAt H' v q l := by
  have kk : GF.Kp H H' := fun b o e ho => k b o (fun hb => by rw [he b hb o e] at ho; cases ho) e
  obtain ⟨a, ev, ha, h6, hr⟩ := h
  refine ⟨a, ev, kpt kk ha, h6, fun e => ?_⟩
  obtain ⟨us, h1, h2, h3⟩ := hr e
  exact ⟨us, k _ _ hl h1, h2.kp kk, h3⟩
theorem HeapAt.same {H H' : Hp} {v : V} {q : Pl} {l : Addr} (h : HeapAt H v q l) (k : Same H H') : HeapAt H' v q l := h.mv [] (by simp) (fun b hb => by simp at hb) fun b o _ e => k b o e
section
variable {w : World} {K : PySem.W.Frag} {mg : Str → Option Value} {base : Heap}
def spHeap : Sp := fun vs H Q _ => ∃ (p c : Addr) (n : Nat), vs = [.ref p, .int 6] ∧ PenAt H p c n ∧ n < 40000 ∧ ∀ (v : V) (q : Pl) (l : Addr) (H' : Hp), SmX p H H' → H l = none → PenAt H' p c (n + 13) → HeapAt H' v q l → Q v H'
theorem ok_heap (T : Txt K mg) : F0 PP w K mg base 4 (a_law_heap K) spHeap := by
  have S : FnScope ["_law_pen_here", "_law_most", "_law_size"] ["_law_pen_here", "_law_most"] (defScope s_law_heap) := ⟨rfl, rfl, rfl, by decide +kernel, rfl, by decide +kernel, by decide +kernel⟩
  refine fd_ok T.f_law_heap S (fun vs H Q E h => ?_) (fun _ _ _ _ _ _ us hl => match us, hl with | [_, _], _ => rfl) (fun cdv A outer s H vs Q E hr h => ?_)
  · obtain ⟨p, c, n, rfl, _⟩ := h; rfl
  · obtain ⟨p, c, n, rfl, hP, hn, k⟩ := h
    have nd := S.nd
    refine ⟨_, pss_cons (ps_set (i := 2) nd rfl (.inl rfl) (c_call (ok_draw T) (hr.mono (by decide)) T.g_law_draw T.f_law_draw.kp (pa_cons (pv 0) (pa_cons (pe_op op_add (pv 1) pe_int) pa_nil))))
      (pss_one (ps_ret (pe_ifExp (pt_cmpR op_eq (c_call (ok_draw T) (hr.mono (by decide)) T.g_law_draw T.f_law_draw.kp (pa_cons (pv 0) (pa_cons pe_int pa_nil))) pe_int (nomark _))
        (pe_tup (pa_cons pe_str (pa_cons (pv 2) (pa_cons (pe_lst pa_nil) pa_nil)))) (pe_tup (pa_cons pe_str (pa_cons (pv 2) (pa_cons (c_call (ok_rows T) hr T.g_law_rows T.f_law_rows.kp (pa_cons (pv 0) pa_nil)) pa_nil))))))), ?_⟩
    refine ⟨_, rfl, _, rfl, _, _, rfl, rfl, p, c, n, 7, rfl, hP, by omega, by omega, by decide, fun z H1 x1 pa1 hz => ?_⟩
    refine ⟨_, rfl, p, c, _, 3, rfl, pa1, by omega, by omega, by decide, fun d H2 x2 pa2 hd => ?_⟩
    have x12 := x1.trans x2
    refine ⟨rfl, _, rfl, ?_⟩
    refine ite2 (fun _ => ?_) (fun _ => ?_)
    · refine ⟨_, rfl, (by show 0 ≤ sizeLine; decide), fun l hl => ⟨(by show 3 ≤ sizeLine; decide), fun a ha => ?_⟩⟩
      have s1 := same_upd (o := .lst []) hl
      have s2 := same_upd3 (o := .tup [.str "plain", sN z, .ref l]) s1 ha
      have fl : H l = none := by
        cases e : H l with
        | none => rfl
        | some o =>
          by_cases hlp : l = p
          · obtain ⟨xs, q⟩ := pen_lst pa2
            rw [hlp, q] at hl
            cases hl
          · rw [x12 _ _ hlp e] at hl
            cases hl
      exact k (.ref a) ⟨true, z, []⟩ l _ (x12.trans (SmX.same s2)) fl ((pa2.same s2).le (by omega)) ⟨a, rfl, upd_same, by show z ≤ 6; omega, fun z => by cases z⟩
    · refine ⟨_, rfl, _, rfl, p, c, _, rfl, pa2, by omega, fun l us rs H3 x3 fl pa3 hl3 hR h2 => ⟨(by show 3 ≤ sizeLine; decide), fun a ha => ?_⟩⟩
      have s2 := same_upd (o := .tup [.str "pile", sN z, .ref l]) ha
      have fl : H l = none := by
        cases e : H l with
        | none => rfl
        | some o =>
          by_cases hlp : l = p
          · obtain ⟨xs, q⟩ := pen_lst pa2
            rw [hlp, q] at fl
            cases fl
          · rw [x12 _ _ hlp e] at fl
            cases fl
      exact k (.ref a) ⟨false, z, rs⟩ l _ ((x12.trans x3).trans (SmX.same s2)) fl ((pa3.same s2).le (by omega)) ⟨a, rfl, upd_same, by show z ≤ 6; omega, fun _ => ⟨us, s2 _ _ hl3, hR.kp (GF.Same.kp s2), h2⟩⟩
/-! piles -/
def spLPile (K : PySem.W.Frag) : Sp := fun vs H Q _ => ∃ (v : V) (q : Pl) (l : Addr), vs = [v] ∧ HeapAt H v q l ∧ ∀ x H', Same H H' → H x = none → PileAt K H' x q → Q (.ref x) H'
theorem ok_lpile (T : Txt K mg) : F0 PP w K mg base 8 (a_law_pile K) (spLPile K) := by
  have S : FnScope ["_law_heap_here"] ["_law_heap_here"] (defScope s_law_pile) := ⟨rfl, rfl, rfl, by decide +kernel, rfl, by decide +kernel, by decide +kernel⟩
  refine fd_ok T.f_law_pile S (fun vs H Q E h => ?_) (fun _ _ _ _ _ _ us hl => match us, hl with | [_], _ => rfl) (fun cdv A outer s H vs Q E hr h => ?_)
  · obtain ⟨v, q, l, rfl, _⟩ := h; rfl
  · obtain ⟨v, q, l, rfl, ⟨a, rfl, ha, h6, hrw⟩, k⟩ := h
    have hmax : (q.n : Int) ≤ heapMax := Int.le_trans (by omega : (q.n : Int) ≤ 6) (by decide)
    refine ⟨_, pss_one (ps_ret (pe_ifExp (pt_cmpR op_eq (pe_ix ix_tup (pv 0) pe_int (fun _ _ => rfl)) pe_str (nomark _)) (c_make T.mk_Plain (ok_plain0 T) hr T.g_Plain (pa_cons (pe_ix ix_tup (pv 0) pe_int (fun _ _ => rfl)) pa_nil))
      (c_make T.mk_Pile (ok_pile0 T) (hr.mono (by decide)) T.g_Pile (pa_cons (pe_ix ix_tup (pv 0) pe_int (fun _ _ => rfl)) (pa_cons (c_call (ok_lbook T) hr T.g_law_book T.f_law_book.kp (pa_cons (pe_ix ix_tup (pv 0) pe_int (fun _ _ => rfl)) pa_nil)) pa_nil))))), ?_⟩
    refine ⟨_, rfl, a, _, _, .str (wp q.pn), rfl, rfl, .inl (.inl ha), rfl, rfl, _, rfl, ?_⟩
    cases hb : q.pn with
    | true =>
      refine iteT ⟨_, rfl, a, _, _, sN q.n, rfl, rfl, .inl (.inl ha), rfl, ?_⟩
      intro x dy hx hdy hne
      have sm : Same H (upd (upd H dy (.own x)) x (.ins (kPlain K) dy [])) := same_upd3 (same_upd hdy) (by rw [upd_ne (Ne.symm hne)]; exact hx)
      exact ⟨x, dy, q.n, rfl, hmax, upd_same, fun H' sx hx' => ⟨rfl, k x H' (fun b o e => sx b o (ne_of_none e hx) (sm _ _ e)) hx (plain_at hb hmax hx')⟩⟩
    | false =>
      obtain ⟨us, hl, hR, h2⟩ := hrw hb
      refine iteF ⟨_, rfl, a, _, _, sN q.n, rfl, rfl, .inl (.inl ha), rfl, _, rfl, a, _, _, .ref l, rfl, rfl, .inl (.inl ha), rfl, l, us, q.rs, rfl, hl, hR, h2, fun b H1 s1 hbf hB => ?_⟩
      obtain ⟨bkd, t0, vs, qs, m', st, re, hbk, _⟩ := id hB
      intro x dy hx hdy hne
      have nbx : b ≠ x := (ne_of_none hbk hx)
      have sm : Same H1 (upd (upd H1 dy (.own x)) x (.ins (kPile K) dy [])) := same_upd3 (same_upd hdy) (by rw [upd_ne (Ne.symm hne)]; exact hx)
      refine ⟨x, kPile K, dy, b, bkd, _, q.n, rfl, hmax, upd_same, .inl rfl, sm _ _ hbk, nbx, rfl, ?_⟩
      rw [upd_upd]
      have sm2 : Same H1 (upd (upd H1 dy (.own x)) x (.ins (kPile K) dy (pFs q.n (.ref b)))) := same_upd3 (same_upd hdy) (by rw [upd_ne (Ne.symm hne)]; exact hx)
      exact k x _ (s1.trans sm2) (s1.free hx) (book_at hb hmax (by omega) upd_same (hB.kp (GF.Same.kp sm2)))
/-! heaps -/
def HeapsAt (H : Hp) (us : List V) (qs : List Pl) : Prop := us.length = qs.length ∧ ∀ (i : Nat) (q : Pl), qs[i]? = some q → ∃ v, us[i]? = some v ∧ ∃ l, HeapAt H v q l
def spHeaps : Sp := fun vs H Q _ => ∃ (p c : Addr) (n : Nat), vs = [.ref p, .int 3, .int 6] ∧ PenAt H p c n ∧ n < 30000 ∧ ∀ (D : Addr) (us : List V) (qs : List Pl) (H' : Hp), SmX p H H' → H D = none → PenAt H' p c (n + 40) → H' D = some (.lst us) → HeapsAt H' us qs → qs.length ≤ 3 → Q (.ref D) H'
theorem ok_heaps (T : Txt K mg) : F0 PP w K mg base 5 (a_law_heaps K) spHeaps := by
  have S : FnScope ["_law_pen_here", "_law_many", "_law_most", "_law_k"] ["_law_pen_here", "_law_many", "_law_most"] (defScope s_law_heaps) := ⟨rfl, rfl, rfl, by decide +kernel, rfl, by decide +kernel, by decide +kernel⟩
  refine fd_ok T.f_law_heaps S (fun vs H Q E h => ?_) (fun _ _ _ _ _ _ us hl => match us, hl with | [_, _, _], _ => rfl) (fun cdv A outer s H vs Q E hr h => ?_)
  · obtain ⟨p, c, n, rfl, _⟩ := h; rfl
  · obtain ⟨p, c, n, rfl, hP, hn, k⟩ := h
    have nd := S.nd
    refine ⟨_, pss_one (ps_ret (pe_lc (own := [("_law_k", 3)]) (g := gName 3) (tt := tYes) rfl nd (pi_range1 rfl T.z_range (pa_cons (c_call (ok_draw T) (hr.mono (by decide)) T.g_law_draw T.f_law_draw.kp (pa_cons (pv 0) (pa_cons (pe_op op_add (pv 1) pe_int) pa_nil))) pa_nil))
      (blkOk_by (own := [("_law_k", 3)]) (N := ["_law_pen_here", "_law_many", "_law_most", "_law_k"]) (sc := defScope s_law_heaps) (by decide +kernel)) (fun _ _ _ _ _ => pg_name (i := 3) nd rfl (Or.inl rfl)) (fun _ _ _ _ _ => pts_nil) (fun _ _ _ _ _ => c_call (ok_heap T) hr T.g_law_heap T.f_law_heap.kp (pa_cons (pv 0) (pa_cons (pv 2) pa_nil))))), ?_⟩
    refine ⟨_, rfl, _, rfl, _, _, rfl, rfl, p, c, n, 4, rfl, hP, by omega, by omega, by decide, fun d H1 x1 pa1 hd => ?_⟩
    refine ⟨(d : Int), rfl, by omega, by omega, fun D hD => ?_⟩
    rw [Int.toNat_natCast]
    have ncD : c ≠ D := fun z => by obtain ⟨_, _, _, _, e, _⟩ := pa1; rw [z, hD] at e; cases e
    have npD : p ≠ D := fun z => by obtain ⟨xs, q⟩ := pen_lst pa1; rw [z, hD] at q; cases q
    refine lc_range (lo := 0) (n := d) (fun i H' => ∃ (ys : List V) (qs : List Pl), SmX p H1 H' ∧ H' D = some (.lst ys) ∧ PenAt H' p c (n + 1 + 13 * i) ∧ qs.length = i ∧ ys.length = qs.length ∧ ∀ (j : Nat) (q : Pl), qs[j]? = some q → ∃ v, ys[j]? = some v ∧ ∃ l, l ≠ D ∧ l ≠ p ∧ HeapAt H' v q l)
      ⟨[], [], SmX.same (same_upd hD), upd_same, pa1.same (same_upd hD), rfl, rfl, fun j q e => by simp at e⟩ ?_ ?_
    · rintro i H2 hi ⟨ys, qs, x2, hy, pa2, hq, hyl, hh⟩
      refine ⟨rfl, _, rfl, _, rfl, p, c, _, rfl, pa2, by omega, fun v q l H3 x3 fl pa3 hv => ⟨ys, x3 _ _ (Ne.symm npD) hy, small1000 (by omega), ys ++ [v], qs ++ [q], ?_, upd_same, ?_, by simp; omega, ?_⟩⟩
      · intro b o hb ho
        rw [upd_ne (ne_of_none ho hD)]
        exact x3 _ _ hb (x2 _ _ hb ho)
      · obtain ⟨ns, a, gr, z1, z2, z3, z4⟩ := pa3.le (show _ ≤ n + 1 + 13 * (i + 1) by omega)
        exact ⟨ns, a, gr, by rw [upd_ne npD]; exact z1, by rw [upd_ne ncD]; exact z2, z3, z4⟩
      · have hy3 := x3 _ _ (Ne.symm npD) hy
        obtain ⟨xs, hp2⟩ := pen_lst pa2
        have mvd : ∀ {v : V} {q : Pl} {l : Addr}, l ≠ D → HeapAt H3 v q l → HeapAt (upd H3 D (.lst (ys ++ [v]))) v q l := fun {v q l} h hv =>
          hv.mv [D] (by simpa using h) (fun b hb o e => by rw [List.mem_singleton.mp hb, hy3] at e; cases e; rfl) fun b o hb e => by rw [upd_ne (by simpa using hb)]; exact e
        have lD : l ≠ D := fun z => by rw [z, hy] at fl; cases fl
        have lp : l ≠ p := fun z => by rw [z, hp2] at fl; cases fl
        refine snoc_at (R := fun v q => ∃ l, l ≠ D ∧ l ≠ p ∧ HeapAt _ v q l) hyl (fun j r e => ?_) ⟨l, lD, lp, mvd lD hv⟩
        obtain ⟨u, e1, l', h1, h2, h3⟩ := hh j r e
        have h4 : HeapAt H3 u r l' := h3.mv [p] (by simpa using h2) (fun b hb o e => by rw [List.mem_singleton.mp hb, hp2] at e; cases e; rfl) fun b o hb e => x3 b o (by simpa using hb) e
        exact ⟨u, e1, l', h1, h2, h4.mv [D] (by simpa using h1) (fun b hb o e => by rw [List.mem_singleton.mp hb, hy3] at e; cases e; rfl) fun b o hb e => by rw [upd_ne (by simpa using hb)]; exact e⟩
    · rintro H2 ⟨ys, qs, x2, hy, pa2, hq, hyl, hh⟩
      have fD : H D = none := by
        cases e : H D with
        | none => rfl
        | some o => rw [x1 _ _ (Ne.symm npD) e] at hD; cases hD
      exact k D ys qs H2 (x1.trans x2) fD (pa2.le (by omega)) hy ⟨hyl, fun j q e => let ⟨v, e1, l, _, _, e2⟩ := hh j q e; ⟨v, e1, l, e2⟩⟩ (by omega)
/-! positions -/
def spLPos (K : PySem.W.Frag) : Sp := fun vs H Q _ => ∃ (l : Addr) (us : List V) (qs : List Pl), vs = [.ref l] ∧ H l = some (.lst us) ∧ HeapsAt H us qs ∧ qs.length ≤ 3 ∧ ∀ b H', Same H H' → H b = none → PosAt K H' b qs → Q (.ref b) H'
theorem ok_lpos (T : Txt K mg) : F0 PP w K mg base 9 (a_law_position K) (spLPos K) := by
  have S : FnScope ["_law_heaps_here", "_law_heap_here"] ["_law_heaps_here"] (defScope s_law_position) := ⟨rfl, rfl, rfl, by decide +kernel, rfl, by decide +kernel, by decide +kernel⟩
  refine fd_ok T.f_law_position S (fun vs H Q E h => ?_) (fun _ _ _ _ _ _ us hl => match us, hl with | [_], _ => rfl) (fun cdv A outer s H vs Q E hr h => ?_)
  · obtain ⟨l, us, qs, rfl, _⟩ := h; rfl
  · obtain ⟨l, us, rs, rfl, hl, hR, h3, k⟩ := h
    have nd := S.nd
    refine ⟨_, pss_one (ps_ret (c_cmeth (pe_cls T.g_Position) T.r_Position T.cm_Position_of (ok_pos_of T) (hr.mono (by decide)) (pa_cons (pe_lc (own := [("_law_heap_here", 1)]) (g := gName 1) (tt := tYes) rfl nd (pi_list (pv 0))
      (blkOk_by (own := [("_law_heap_here", 1)]) (N := ["_law_heaps_here", "_law_heap_here"]) (sc := defScope s_law_position) (by decide +kernel)) (fun _ _ _ _ _ => pg_name (i := 1) nd rfl (Or.inl rfl)) (fun _ _ _ _ _ => pts_nil) (fun _ _ _ _ _ => c_call (ok_lpile T) hr T.g_law_pile T.f_law_pile.kp (pa_cons (pv 1) pa_nil))) pa_nil))), ?_⟩
    refine ⟨rfl, _, rfl, l, rfl, ⟨us, .inl (.inl hl)⟩, fun D hD => ?_⟩
    have nDl : D ≠ l := (ne_of_none hl hD).symm
    refine lc_list (K := K) (a := l) (xs := us) (fun i H' => ∃ ys, SmX D H H' ∧ H' D = some (.lst ys) ∧ PilesAt K H' ys (rs.take i)) ⟨[], SmX.put, upd_same, rfl, fun i r e => by simp at e⟩
      (fun i H' _ ⟨ys, sx, _⟩ => .inl (.inl (sx _ _ (Ne.symm nDl) hl))) ?_ ?_
    · rintro i x H' hx ⟨ys, sx, hy, hY⟩
      have hi : i < rs.length := by rw [← hR.1]; exact (List.getElem?_eq_some_iff.mp hx).1
      obtain ⟨v, ev, ll, hv⟩ := hR.2 i rs[i] (List.getElem?_eq_getElem hi)
      rw [hx] at ev
      cases ev
      have hv' := hv.same (sx.toSame hD)
      refine ⟨rfl, _, rfl, _, rs[i], ll, rfl, hv', fun y H2 s2 hy0 hyR => ⟨ys, s2 _ _ hy, ?_, ys ++ [.ref y], ?_, upd_same, ?_⟩⟩
      · have := hY.1
        rw [List.length_take] at this
        exact small1000 (by omega)
      · exact (sx.trans (SmX.same s2)).trans SmX.put
      · have kL : GF.Kp H2 (upd H2 D (.lst (ys ++ [.ref y]))) := (SmX.put (o := .lst (ys ++ [.ref y]))).kp (s2 _ _ hy)
        rw [List.take_add_one, List.getElem?_eq_getElem hi]
        have hY2 := (hY.kp (GF.Same.kp s2)).kp kL
        exact snoc_at (R := fun v r => ∃ p, v = .ref p ∧ PileAt K _ p r) hY2.1 (fun i a e => let ⟨p, e1, e2⟩ := hY2.2 i a e; ⟨.ref p, e1, p, rfl, e2⟩) ⟨y, rfl, hyR.kp kL⟩ |> fun h => ⟨h.1, fun i a e => by
          obtain ⟨v, e1, p, e2, e3⟩ := h.2 i a e
          exact ⟨p, by rw [e1, e2], e3⟩⟩
    · rintro H' ⟨ys, sx, hy, hY⟩
      rw [hR.1, List.take_length] at hY
      refine ⟨D, ys, rs, rfl, hy, hY, by omega, fun b H2 s2 hb hB => k b H2 ((sx.toSame hD).trans s2) ((sx.toSame hD).free hb) hB⟩
end
end RW
end

/-! ## F28 -/
section
set_option Elab.async false
set_option linter.all false
set_option maxRecDepth 100000
set_option maxHeartbeats 4000000
namespace RW
open PySem PySem.Spec PyProof.Rows L2
/-! ### small positions -/
def Sml (qs : List Pl) : Prop := qs.length ≤ 3 ∧ ∀ q ∈ qs, q.n ≤ 6
theorem Sml.aft {qs : List Pl} (h : Sml qs) (m : Nat × Nat) : Sml (aft qs m) := by
  refine ⟨by rw [aft_len]; exact h.1, fun r hr => ?_⟩
  unfold RW.aft at hr
  split at hr
  · rename_i q e
    rcases List.mem_or_eq_of_mem_set hr with h' | h'
    · exact h.2 r h'
    · subst h'
      have := h.2 q (List.mem_of_getElem? e)
      show q.n - m.2 ≤ 6
      omega
  · exact h.2 r hr
theorem mvT_len {f : Pl → List Nat} {qs : List Pl} {B : Nat} (h : ∀ q ∈ qs, (f q).length ≤ B) : ∀ i, (mvT f qs i).length ≤ i * B := by
  intro i
  induction i with
  | zero => simp [mvT]
  | succ i ih =>
    cases e : qs[i]? with
    | none =>
      have : mvT f qs (i + 1) = mvT f qs i := by
        unfold mvT
        rw [List.range_succ, List.flatMap_append]
        simp [e]
      rw [this, Nat.succ_mul]
      omega
    | some q =>
      rw [mvT_succ e, List.length_append, List.length_map, Nat.succ_mul]
      have := h q (List.mem_of_getElem? e)
      omega
theorem PosAt.nums6 {K : PySem.W.Frag} {H : Hp} {s : Addr} {qs : List Pl} (h : PosAt K H s qs) (hs : Sml qs) : ∀ q ∈ qs, (nums q).length ≤ 6 := by
  intro q hq
  have h6 := hs.2 q hq
  obtain ⟨_, _, _, _, _, _, hP⟩ := h
  obtain ⟨i, hi, e⟩ := List.mem_iff_getElem.mp hq
  obtain ⟨c, _, hc⟩ := hP.2 i q (by rw [List.getElem?_eq_getElem hi, e])
  unfold nums
  split
  · rw [List.length_range']; exact h6
  · rename_i hp
    obtain ⟨_, _, _, b, _, hB⟩ := pile_book hc (by simpa using hp)
    unfold takesOf
    rw [List.length_map, List.length_reverse]
    exact Nat.le_trans (lefts_two hB.ok hB.few q.n) (by decide)
theorem toN_len (q : Pl) (v : Nat) : (toN q v).length ≤ (nums q).length := by
  unfold toN nums
  split
  · split
    · rename_i h
      rw [List.length_range']
      show 1 ≤ q.n
      omega
    · exact Nat.zero_le _
  · exact List.length_filter_le _ _
theorem line18 : 18 ≤ sizeLine := by decide
theorem PosAt.mvs18 {K : PySem.W.Frag} {H : Hp} {s : Addr} {qs : List Pl} (h : PosAt K H s qs) (hs : Sml qs) : (mvs qs).length ≤ 18 := by
  have := mvT_len (h.nums6 hs) qs.length
  have h3 := hs.1
  unfold mvs
  omega
theorem PosAt.wns18 {K : PySem.W.Frag} {H : Hp} {s : Addr} {qs : List Pl} (h : PosAt K H s qs) (hs : Sml qs) : (wns qs).length ≤ 18 := by
  have := mvT_len (f := fun q => toN q (xo qs ^^^ wo q)) (B := 6) (fun q hq => Nat.le_trans (toN_len q _) (h.nums6 hs q hq)) qs.length
  have h3 := hs.1
  unfold wns
  omega
theorem tot18 {qs : List Pl} (h : Sml qs) : tot qs ≤ 18 := by
  have : ∀ l : List Pl, (∀ q ∈ l, q.n ≤ 6) → (l.map (·.n)).sum ≤ l.length * 6 := by
    intro l
    induction l with
    | nil => intro _; simp
    | cons a l ih =>
      intro hl
      have h1 := hl a List.mem_cons_self
      have h2 := ih fun q hq => hl q (List.mem_cons_of_mem _ hq)
      simp only [List.map_cons, List.sum_cons, List.length_cons]
      omega
  have := this qs h.2
  have := h.1
  unfold tot
  omega
theorem rndsN_len : ∀ (n : Nat) (qs : List Pl), (rndsN n qs).length ≤ n
  | 0, _ => Nat.le_refl _
  | n + 1, qs => by
    show (match fmv qs with | none => [] | some m => m :: rndsN n (aft qs m)).length ≤ n + 1
    cases fmv qs with
    | none => exact Nat.zero_le _
    | some m => exact Nat.succ_le_succ (rndsN_len n _)
theorem rnds18 {qs : List Pl} (h : Sml qs) : (rnds qs).length ≤ 18 := Nat.le_trans (rndsN_len _ _) (tot18 h)
/-! ### moves as data -/
def mvD (m : Nat × Nat) : PyData := .tuple [.int (m.1 : Int), .int (m.2 : Int)]
theorem mvD_eqv (m k : Nat × Nat) : PyData.eqv (mvD m) (mvD k) = decide (m = k) := by
  show (((m.1 : Int) == (k.1 : Int)) && (((m.2 : Int) == (k.2 : Int)) && true)) = _
  obtain ⟨a, b⟩ := m
  obtain ⟨c, d⟩ := k
  by_cases h1 : a = c
  · by_cases h2 : b = d
    · subst h1; subst h2; simp
    · have : ¬ ((b : Int) = (d : Int)) := by omega
      simp [h1, h2, this]
  · have : ¬ ((a : Int) = (c : Int)) := by omega
    simp [h1, this]
theorem mvs_lay : ∀ ms : List (Nat × Nat), PyData.canLayAll0 (ms.map mvD) = true
  | [] => rfl
  | m :: ms => by
    show (PyData.canLay0 (mvD m) && PyData.canLayAll0 (ms.map mvD)) = true
    rw [mvs_lay ms]
    rfl
theorem mvs_depth : ∀ ms : List (Nat × Nat), PyData.depthAll (ms.map mvD) ≤ 1
  | [] => Nat.zero_le _
  | m :: ms => by
    show max (PyData.depth (mvD m)) (PyData.depthAll (ms.map mvD)) ≤ 1
    have := mvs_depth ms
    have h : PyData.depth (mvD m) = 1 := rfl
    omega
theorem mvs_shaped (ms : List (Nat × Nat)) : SeqAt.shaped (.list (ms.map mvD)) = true := by
  show (PyData.canLayAll0 (ms.map mvD) && decide (PyData.depthAll (ms.map mvD) + 1 ≤ 64)) = true
  have := mvs_depth ms
  rw [mvs_lay, decide_eq_true (by omega)]
  rfl
theorem mvs_shapedT (ms : List (Nat × Nat)) : SeqAt.shaped (.tuple (ms.map mvD)) = true := by
  show (PyData.canLayAll0 (ms.map mvD) && decide (PyData.depthAll (ms.map mvD) + 1 ≤ 64)) = true
  have := mvs_depth ms
  rw [mvs_lay, decide_eq_true (by omega)]
  rfl
theorem mvD_shaped (m : Nat × Nat) : SeqAt.shaped (mvD m) = true := rfl
theorem mvs_eqv : ∀ ms ks : List (Nat × Nat), PyData.eqvAll (ms.map mvD) (ks.map mvD) = decide (ms = ks)
  | [], [] => rfl
  | [], _ :: _ => rfl
  | _ :: _, [] => rfl
  | m :: ms, k :: ks => by
    show (PyData.eqv (mvD m) (mvD k) && PyData.eqvAll (ms.map mvD) (ks.map mvD)) = _
    rw [mvD_eqv, mvs_eqv ms ks]
    by_cases h : m = k <;> simp [h]
theorem mvs_any (ms : List (Nat × Nat)) (m : Nat × Nat) : ((ms.map mvD).any fun z => PyData.eqv z (mvD m)) = decide (m ∈ ms) := by
  induction ms with
  | nil => rfl
  | cons k ms ih =>
    rw [List.map_cons, List.any_cons, ih, mvD_eqv]
    by_cases h : k = m
    · simp [h]
    · have : ¬ m = k := fun z => h z.symm
      simp [h, this]
theorem dp_mv {K : PySem.W.Frag} {H : Hp} {v : V} {m : Nat × Nat} (h : mvV H v m) : Dp K H v (mvD m) := by
  obtain ⟨a, rfl, h⟩ := h
  exact .tup (.inl (.inl h)) (.cons (.int _) (.cons (.int _) .nil))
theorem dp_mvs {K : PySem.W.Frag} {H : Hp} : ∀ {us : List V} {ms : List (Nat × Nat)}, MvsAt H us ms → DpAll K H us (ms.map mvD)
  | [], [], _ => .nil
  | [], _ :: _, h => by have := h.1; simp at this
  | _ :: _, [], h => by have := h.1; simp at this
  | u :: us, m :: ms, h => by
    obtain ⟨x, e, hx⟩ := h.2 0 m rfl
    cases e
    exact .cons (dp_mv hx) (dp_mvs ⟨by have := h.1; simpa using this, fun i k e => h.2 (i + 1) k e⟩)
theorem its_mvs {H : Hp} {ys : List V} {ms : List (Nat × Nat)} (hl : ys.length = ms.length) (h : ∀ i x, ys[i]? = some x → itM ms i x H) : MvsAt H ys ms := by
  refine ⟨hl, fun i m e => ?_⟩
  have hi : i < ys.length := by rw [hl]; exact (List.getElem?_eq_some_iff.mp e).1
  refine ⟨ys[i], List.getElem?_eq_getElem hi, ?_⟩
  obtain ⟨k, ek, hk⟩ := h i ys[i] (List.getElem?_eq_getElem hi)
  rw [e] at ek
  cases ek
  exact hk
end RW
end

/-! ## F29 -/
section
set_option Elab.async false
set_option linter.all false
set_option maxRecDepth 100000
set_option maxHeartbeats 4000000
namespace RW
open PySem PySem.Spec PyProof.Rows L2
def Sm2 (p q : Addr) (H H' : Hp) : Prop := ∀ b o, b ≠ p → b ≠ q → H b = some o → H' b = some o
theorem Sm2.trans {p q : Addr} {H H1 H2 : Hp} (a : Sm2 p q H H1) (b : Sm2 p q H1 H2) : Sm2 p q H H2 := fun c o h1 h2 e => b c o h1 h2 (a c o h1 h2 e)
theorem SmX.l2 {p q : Addr} {H H1 : Hp} (a : SmX p H H1) : Sm2 p q H H1 := fun c o h1 _ e => a c o h1 e
theorem SmX.r2 {p q : Addr} {H H1 : Hp} (a : SmX q H H1) : Sm2 p q H H1 := fun c o _ h2 e => a c o h2 e
section
variable {w : World} {K : PySem.W.Frag} {mg : Str → Option Value} {base : Heap}
theorem PenAt.mch {H H' : Hp} {p c gm s : Addr} {n : Nat} {qs : List Pl} {ms : List (Nat × Nat)} (h : PenAt H p c n) (hM : MatchAt K H gm s qs ms) (k : SmX gm H H') : PenAt H' p c n := by
  obtain ⟨dx, t, us, hp, _⟩ := hM
  exact h.oth hp k
/-- list(x) == [] / != [] on moves -/
theorem dp_ne {ms : List (Nat × Nat)} : PyData.eqv (.list (ms.map mvD)) (.list []) = decide (ms = []) := by
  cases ms <;> rfl
def spPlay (K : PySem.W.Frag) : Sp := fun vs H Q _ => ∃ (p c gm s : Addr) (n : Nat) (qs : List Pl), vs = [.ref p, .ref gm, .int 4] ∧ PenAt H p c n ∧ n < 20000 ∧ MatchAt K H gm s qs [] ∧ Sml qs ∧
  ∀ (s' : Addr) (qs' : List Pl) (ms' : List (Nat × Nat)) (H' : Hp), Sm2 p gm H H' → PenAt H' p c (n + 5) → MatchAt K H' gm s' qs' ms' → Sml qs' → ms'.length ≤ 4 → Q .non H'
theorem ok_play (T : Txt K mg) : F0 PP w K mg base 14 (a_law_play K) (spPlay K) := by
  have S : FnScope ["_law_pen_here", "_law_game", "_law_many", "_law_again", "_law_due", "_law_move"] ["_law_pen_here", "_law_game", "_law_many"] (defScope s_law_play) := ⟨rfl, rfl, rfl, by decide +kernel, rfl, by decide +kernel, by decide +kernel⟩
  obtain ⟨f2, Y2, b2⟩ := ok_moves (w := w) (base := base) T
  refine fd_ok T.f_law_play S (fun vs H Q E h => ?_) (fun _ _ _ _ _ _ us hl => match us, hl with | [_, _, _], _ => rfl) (fun cdv A outer s H vs Q E hr h => ?_)
  · obtain ⟨p, c, gm, s, n, qs, rfl, _⟩ := h; rfl
  · obtain ⟨p, c, gm, s, n, qs, rfl, hP, hn, hM, hS, k⟩ := h
    have nd := S.nd
    refine ⟨_, pss_one (ps_for PassesOwn.never rfl (pi_range1 rfl T.z_range (pa_cons (c_call (ok_draw T) (hr.mono (by decide)) T.g_law_draw T.f_law_draw.kp (pa_cons (pv 0) (pa_cons (pe_op op_add (pv 2) pe_int) pa_nil))) pa_nil)) (pg_name (i := 3) nd rfl (.inl rfl))
      (pss_cons (ps_set (i := 4) nd rfl (.inl rfl) (GF.pe_listY (GF.pg_meth0 (c_prop (pv 1) T.c_Match T.p_Match_position (ok_position T) (hr.mono (by decide))) T.c_Position T.m_Position_moves Y2 (hr.mono (by decide)) b2 .nil) hr rfl T.z_list boot_list))
      (pss_one (ps_if (pt_cmpR (op_neD hr.units) (pv 4) (pe_lst pa_nil) (nomark _))
        (pss_cons (ps_set (i := 5) nd rfl (.inl rfl) (c_call (ok_pick T) (hr.mono (by decide)) T.g_law_pick T.f_law_pick.kp (pa_cons (pv 0) (pa_cons (pv 4) pa_nil))))
        (pss_one (ps_expr (c_meth (pv 1) T.c_Match T.m_Match_take (ok_mtake T) (hr.mono (by decide)) (pa_cons (pe_ix ix_tup (pv 5) pe_int (fun _ _ => rfl)) (pa_cons (pe_ix ix_tup (pv 5) pe_int (fun _ _ => rfl)) pa_nil)))))) pss_nil)))), ?_⟩
    refine ⟨_, rfl, _, rfl, _, _, rfl, rfl, p, c, n, 5, rfl, hP, by omega, by omega, by decide, fun d H1 x1 pa1 hd => ?_⟩
    obtain ⟨xs0, hp0⟩ := pen_lst hP
    refine ⟨(d : Int), rfl, by omega, by omega, ?_⟩
    rw [Int.toNat_natCast]
    refine for_range (lo := 0) (n := d) (fun i σ H' => ∃ (s' : Addr) (qs' : List Pl) (ms' : List (Nat × Nat)) (v1 v2 v3 : Option V), σ = [some (.ref p), some (.ref gm), some (.int 4), v1, v2, v3] ∧ Sm2 p gm H H' ∧ PenAt H' p c (n + 1 + i) ∧ MatchAt K H' gm s' qs' ms' ∧ Sml qs' ∧ ms'.length ≤ i)
      ⟨s, qs, [], none, none, none, rfl, x1.l2, pa1, hM.kp (x1.kp hp0), hS, Nat.le_refl _⟩ ?_ ?_
    · rintro i σ H2 hi ⟨s', qs', ms', v1, v2, v3, rfl, x2, pa2, hM2, hS2, hml⟩
      obtain ⟨dx, t, us, hg, hPs, _⟩ := id hM2
      obtain ⟨_, dy, tt, uu, hs', _⟩ := id hPs
      refine ⟨_, rfl, gm, dx, _, rfl, hg, gm, s', qs', ms', rfl, hM2, s', dy, _, rfl, hs', rfl, _, itM (mvs qs'), ⟨s', qs', rfl, hPs, rfl, rfl⟩, Nat.le_trans (hPs.mvs18 hS2) line18, itM_mono _, fun D ys H3 fD s3 hD hyl hit => ?_⟩
      have hY := its_mvs hyl hit
      have pa3 := pa2.same s3
      have hM3 := hM2.kp (GF.Same.kp s3)
      refine ⟨_, rfl, (by show 0 ≤ sizeLine; decide), fun e he => ?_⟩
      have s4 := same_upd (o := .lst []) he
      have hD4 := s4 _ _ hD
      have hY4 := hY.kp (GF.Same.kp s4)
      refine ⟨.list ((mvs qs').map mvD), .list [], .lst (.inl (.inl hD4)) (dp_mvs hY4), .lst (.inl (.inl upd_same)) .nil, mvs_shaped _, by decide +kernel, _, rfl, ?_⟩
      rw [dp_ne]
      have pa4 := pa3.same s4
      have hM4 := hM3.kp (GF.Same.kp s4)
      have x4 : Sm2 p gm H (upd H3 e (.lst [])) := x2.trans ((SmX.same (s3.trans s4)).l2)
      refine ite2 (fun hne => ?_) (fun _ => ?_)
      · have hne : mvs qs' ≠ [] := fun z => by rw [z] at hne; simp at hne
        have hlen : 1 ≤ ys.length := by rw [hyl]; exact List.length_pos_iff.mpr hne
        have h18 := hPs.mvs18 hS2
        obtain ⟨xs2, hp2⟩ := pen_lst pa2
        have nDp : D ≠ p := fun z => by rw [z, hp2] at fD; cases fD
        refine ⟨_, rfl, _, rfl, p, c, D, ys, _, rfl, hD4, nDp, hlen, by omega, pa4, by omega, fun j v H5 x5 pa5 hv => ?_⟩
        have hj : j < (mvs qs').length := by rw [← hyl]; exact (List.getElem?_eq_some_iff.mp hv).1
        obtain ⟨x, ex, hmv⟩ := hY4.2 j (mvs qs')[j] (List.getElem?_eq_getElem hj)
        rw [hv] at ex
        cases ex
        obtain ⟨xs4, hp4⟩ := pen_lst pa4
        have k5 := x5.kp hp4
        obtain ⟨a, rfl, ha⟩ := hmv.kp k5
        have hM5 := hM4.kp k5
        obtain ⟨q, hq, hqn⟩ := mem_mvs.mp (List.getElem_mem hj)
        obtain ⟨dx5, t5, us5, hg5, _⟩ := id hM5
        refine ⟨_, rfl, gm, dx5, _, rfl, hg5, rfl, _, rfl, a, _, _, sN ((mvs qs')[j]).1, rfl, rfl, .inl (.inl ha), rfl, _, rfl, a, _, _, sN ((mvs qs')[j]).2, rfl, rfl, .inl (.inl ha), rfl, gm, s', qs', ms', (mvs qs')[j], q, rfl, hM5, by omega, hq, hqn, fun s6 H6 x6 hM6 => ?_⟩
        exact ⟨s6, _, _, _, _, _, rfl, (x4.trans x5.l2).trans x6.r2, (pa5.mch hM5 x6).le (by omega), hM6, hS2.aft _, by rw [List.length_append]; simp; omega⟩
      · exact ⟨s', qs', ms', _, _, _, rfl, x4, pa4.le (by omega), hM4, hS2, by omega⟩
    · rintro σ H2 ⟨s', qs', ms', v1, v2, v3, rfl, x2, pa2, hM2, hS2, hml⟩
      exact k s' qs' ms' H2 x2 (pa2.le (by omega)) hM2 hS2 (by omega)
end
end RW
end

/-! ## M3 -/
section
set_option Elab.async false
set_option linter.all false
set_option maxRecDepth 100000
set_option maxHeartbeats 4000000
namespace RW
open PySem PySem.Spec PyProof.Rows L2
/-! ### nim -/
def xs : List Nat → Nat
  | [] => 0
  | a :: l => a ^^^ xs l
theorem xs_foldl : ∀ (l : List Nat) (a : Nat), l.foldl (fun a w => a ^^^ w) a = a ^^^ xs l
  | [], a => (Nat.xor_zero a).symm
  | w :: l, a => by
    show l.foldl _ (a ^^^ w) = a ^^^ (w ^^^ xs l)
    rw [xs_foldl l, Nat.xor_assoc]
theorem xo_xs (qs : List Pl) : xo qs = xs (qs.map wo) := by
  have := xs_foldl (qs.map wo) 0
  rw [List.foldl_map, Nat.zero_xor] at this
  exact this
theorem xs_set : ∀ {l : List Nat} {i a b : Nat}, l[i]? = some a → xs (l.set i b) = xs l ^^^ a ^^^ b
  | [], _, _, _, h => by simp at h
  | w :: l, 0, a, b, h => by
    simp at h
    subst h
    show b ^^^ xs l = w ^^^ xs l ^^^ w ^^^ b
    rw [Nat.xor_comm w (xs l), Nat.xor_assoc (xs l) w w, Nat.xor_self, Nat.xor_zero, Nat.xor_comm]
  | w :: l, i + 1, a, b, h => by
    show w ^^^ xs (l.set i b) = w ^^^ xs l ^^^ a ^^^ b
    rw [xs_set (l := l) (i := i) (a := a) (b := b) (by simpa using h), Nat.xor_assoc w, Nat.xor_assoc w]
theorem xs_half : ∀ l : List Nat, xs (l.map (· / 2)) = xs l / 2
  | [] => rfl
  | w :: l => by
    show w / 2 ^^^ xs (l.map (· / 2)) = (w ^^^ xs l) / 2
    rw [xs_half l, Nat.xor_div_two]
theorem xs_odd : ∀ {l : List Nat}, xs l % 2 = 1 → ∃ (i w : Nat), l[i]? = some w ∧ w % 2 = 1
  | [], h => by simp [xs] at h
  | w :: l, h => by
    by_cases hw : w % 2 = 1
    · exact ⟨0, w, rfl, hw⟩
    · have h : (w ^^^ xs l) % 2 = 1 := h
      have e := (Nat.xor_mod_two_eq_one (a := w) (b := xs l)).mp h
      have : xs l % 2 = 1 := by
        by_cases q : xs l % 2 = 1
        · exact q
        · exact absurd ⟨fun z => absurd z hw, fun z => absurd z q⟩ e
      obtain ⟨i, u, e1, e2⟩ := xs_odd this
      exact ⟨i + 1, u, by simpa using e1, e2⟩
theorem xs_low : ∀ (n : Nat) {l : List Nat}, xs l ≤ n → xs l ≠ 0 → ∃ (i w : Nat), l[i]? = some w ∧ xs l ^^^ w < w := by
  intro n
  induction n using Nat.strongRecOn with
  | ind n ih =>
    intro l hn h0
    by_cases hh : xs l / 2 = 0
    · have h1 : xs l = 1 := by omega
      obtain ⟨i, w, e, hw⟩ := xs_odd (l := l) (by omega)
      refine ⟨i, w, e, ?_⟩
      have e1 : (xs l ^^^ w) / 2 = xs l / 2 ^^^ w / 2 := Nat.xor_div_two
      rw [hh, Nat.zero_xor] at e1
      have e2 := Nat.xor_mod_two_eq_one (a := xs l) (b := w)
      have e3 : ¬ (xs l ^^^ w) % 2 = 1 := fun z => (e2.mp z) ⟨fun _ => hw, fun _ => by omega⟩
      omega
    · have hx := xs_half l
      obtain ⟨i, w', e, hw⟩ := ih (xs l / 2) (by omega) (l := l.map (· / 2)) (by omega) (by omega)
      rw [List.getElem?_map] at e
      cases ew : l[i]? with
      | none => rw [ew] at e; cases e
      | some w =>
        rw [ew] at e
        cases e
        refine ⟨i, w, ew, ?_⟩
        have e1 : (xs l ^^^ w) / 2 = xs l / 2 ^^^ w / 2 := Nat.xor_div_two
        rw [hx] at hw
        have hw : xs l / 2 ^^^ w / 2 < w / 2 := hw
        omega
theorem xor_cancel {a b : Nat} (h : a ^^^ b = 0) : a = b := by
  have : a ^^^ b ^^^ b = b := by rw [h, Nat.zero_xor]
  rw [Nat.xor_assoc, Nat.xor_self, Nat.xor_zero] at this
  exact this
/-! worths of what moves leave -/
theorem take_left {rs : List Rl} {n k : Nat} (o : ∀ r ∈ rs, r.Ok) (h : k ∈ takesOf rs n) : n - k ∈ leftsOf rs n ∧ k ≤ n := by
  unfold takesOf at h
  obtain ⟨a, ha, rfl⟩ := List.mem_map.mp h
  have ha := List.mem_reverse.mp ha
  have := lefts_len o a ha
  exact ⟨by rw [show n - (n - a) = a by omega]; exact ha, by omega⟩
theorem left_ne {rs : List Rl} {n a : Nat} (o : ∀ r ∈ rs, r.Ok) (h : a ∈ leftsOf rs n) : g rs a ≠ g rs n := by
  intro e
  have := mex_spec ((leftsOf rs n).map (g rs))
  rw [← g_eq o] at this
  exact this.1 (by rw [← e]; exact List.mem_map.mpr ⟨a, h, rfl⟩)
theorem left_has {rs : List Rl} {n v : Nat} (o : ∀ r ∈ rs, r.Ok) (h : v < g rs n) : ∃ a ∈ leftsOf rs n, g rs a = v := by
  have := mex_spec ((leftsOf rs n).map (g rs))
  rw [← g_eq o] at this
  obtain ⟨a, ha, e⟩ := List.mem_map.mp (this.2 v h)
  exact ⟨a, ha, e⟩
def lv (q : Pl) (k : Nat) : Pl := { q with n := q.n - k }
theorem nums_ne {q : Pl} {k : Nat} (o : q.pn = false → ∀ r ∈ q.rs, r.Ok) (h : k ∈ nums q) : wo (lv q k) ≠ wo q := by
  have hk := nums_mem o h
  unfold nums at h
  unfold wo lv
  by_cases hp : q.pn = true
  · simp only [if_pos hp]
    omega
  · simp only [if_neg hp] at h ⊢
    exact left_ne (o (by simpa using hp)) (take_left (o (by simpa using hp)) h).1
theorem toN_wo {q : Pl} {v k : Nat} (h : k ∈ toN q v) : wo (lv q k) = v := by
  unfold toN at h
  unfold wo lv
  by_cases hp : q.pn = true
  · simp only [if_pos hp] at h ⊢
    by_cases hv : v < q.n
    · rw [if_pos hv] at h
      have : k = q.n - v := by simpa using h
      omega
    · rw [if_neg hv] at h
      simp at h
  · simp only [if_neg hp] at h ⊢
    exact beq_iff_eq.mp (List.mem_filter.mp h).2
theorem toN_has {q : Pl} {v : Nat} (o : q.pn = false → ∀ r ∈ q.rs, r.Ok) (h : v < wo q) : ∃ k, k ∈ toN q v := by
  unfold wo at h
  unfold toN
  by_cases hp : q.pn = true
  · simp only [if_pos hp] at h ⊢
    exact ⟨q.n - v, by rw [if_pos h]; simp⟩
  · simp only [if_neg hp] at h ⊢
    obtain ⟨a, ha, e⟩ := left_has (o (by simpa using hp)) h
    have := lefts_len (o (by simpa using hp)) a ha
    refine ⟨q.n - a, List.mem_filter.mpr ⟨?_, ?_⟩⟩
    · unfold takesOf
      exact List.mem_map.mpr ⟨a, List.mem_reverse.mpr ha, rfl⟩
    · rw [show q.n - (q.n - a) = a by omega]
      exact beq_iff_eq.mpr e
theorem xo_aft {qs : List Pl} {m : Nat × Nat} {q : Pl} (h : qs[m.1]? = some q) : xo (aft qs m) = xo qs ^^^ wo q ^^^ wo (lv q m.2) := by
  rw [xo_xs, xo_xs, aft_some h, List.map_set]
  exact xs_set (by rw [List.getElem?_map, h]; rfl)
theorem wns_zero {qs : List Pl} {m : Nat × Nat} (h : m ∈ wns qs) : xo (aft qs m) = 0 := by
  obtain ⟨q, e, hm⟩ := mem_mvT.mp h
  rw [xo_aft e, toN_wo hm, Nat.xor_self]
theorem legal_nz {qs : List Pl} {m : Nat × Nat} (o : PsOk qs) (h : Legal qs m) (h0 : xo qs = 0) : xo (aft qs m) ≠ 0 := by
  obtain ⟨q, e, hm⟩ := h
  rw [xo_aft e, h0, Nat.zero_xor]
  exact fun z => nums_ne (o q (List.mem_of_getElem? e)) hm (xor_cancel z).symm
theorem wns_iff {qs : List Pl} (o : PsOk qs) : wns qs ≠ [] ↔ xo qs ≠ 0 := by
  constructor
  · intro h h0
    obtain ⟨m, hm⟩ := List.exists_mem_of_ne_nil _ h
    exact legal_nz o (wns_legal hm) h0 (wns_zero hm)
  · intro h
    rw [xo_xs] at h
    obtain ⟨i, w, e, hw⟩ := xs_low _ (Nat.le_refl _) h
    rw [List.getElem?_map] at e
    cases eq : qs[i]? with
    | none => rw [eq] at e; cases e
    | some q =>
      rw [eq] at e
      cases e
      rw [← xo_xs] at hw
      obtain ⟨k, hk⟩ := toN_has (o q (List.mem_of_getElem? eq)) hw
      exact List.ne_nil_of_mem (mem_mvT.mpr ⟨q, eq, hk⟩ : (i, k) ∈ wns qs)
theorem fmv_wns {qs : List Pl} {m : Nat × Nat} (h : fmv qs = some m) : (wns qs)[0]? = some m ∨ (wns qs = [] ∧ (mvs qs)[0]? = some m) := by
  unfold fmv at h
  split at h
  · rename_i a l e
    cases h
    exact .inl (by rw [e]; rfl)
  · rename_i e
    exact .inr ⟨e, by rw [← List.head?_eq_getElem?]; exact h⟩
theorem fmv_none {qs : List Pl} (h : fmv qs = none) : wns qs = [] ∧ mvs qs = [] := by
  unfold fmv at h
  split at h
  · cases h
  · rename_i e
    exact ⟨e, List.head?_eq_none_iff.mp h⟩
theorem parity : ∀ (n : Nat) {qs : List Pl}, tot qs ≤ n → PsOk qs → (xo qs ≠ 0 ↔ (rnds qs).length % 2 = 1) := by
  intro n
  induction n using Nat.strongRecOn with
  | ind n ih =>
    intro qs hn o
    cases e : fmv qs with
    | none =>
      rw [rnds_none e]
      obtain ⟨h1, _⟩ := fmv_none e
      have := wns_iff o
      simp [h1] at this
      simp [this]
    | some m =>
      have hl := fmv_legal e
      have ht := tot_aft o hl
      rw [rnds_some o e, List.length_cons]
      have hi := ih (tot (aft qs m)) (by omega) (Nat.le_refl _) (aft_ok o (m := m))
      rcases fmv_wns e with h | ⟨h, _⟩
      · have hm := List.mem_of_getElem? h
        have h0 := wns_zero hm
        have hx : xo qs ≠ 0 := (wns_iff o).mp (List.ne_nil_of_mem hm)
        have : ¬ (rnds (aft qs m)).length % 2 = 1 := fun z => (hi.mpr z) h0
        exact ⟨fun _ => by omega, fun _ => hx⟩
      · have hx : xo qs = 0 := by
          by_cases z : xo qs = 0
          · exact z
          · exact absurd h ((wns_iff o).mpr z)
        have := hi.mp (legal_nz o hl hx)
        exact ⟨fun z => absurd hx z, fun z => by omega⟩
end RW
end

/-! ## F30 -/
section
set_option Elab.async false
set_option linter.all false
set_option maxRecDepth 100000
set_option maxHeartbeats 4000000
namespace RW
open PySem PySem.Spec PyProof.Rows L2
theorem Room.u65 {k : Nat} {A : Around} (r : Room k A) : A.units + 65 < cLine := by have := r.un; omega
theorem mm_eqv (m : Nat × Nat) : PyData.eqv (mvD m) (mvD m) = true := by rw [mvD_eqv]; simp
section
variable {w : World} {K : PySem.W.Frag} {mg : Str → Option Value} {base : Heap}
/-! rounds are right -/
def spRR (K : PySem.W.Frag) : Sp := fun vs H Q _ => ∃ (gm s : Addr) (qs : List Pl) (ms : List (Nat × Nat)), vs = [.ref gm] ∧ MatchAt K H gm s qs ms ∧ Sml qs ∧ ∀ H', Same H H' → Q (.bl true) H'
theorem ok_rr (T : Txt K mg) : F0 PP w K mg base 20 (a_law_rounds_right K) (spRR K) := by
  have S : FnScope ["_law_game", "_law_real", "_law_found", "_law_move", "_law_good", "_law_due", "_law_last"] ["_law_game"] (defScope s_law_rounds_right) := ⟨rfl, rfl, rfl, by decide +kernel, rfl, by decide +kernel, by decide +kernel⟩
  obtain ⟨f1, Y1, b1⟩ := ok_rounds (w := w) (base := base) T
  obtain ⟨f2, Y2, b2⟩ := ok_moves (w := w) (base := base) T
  obtain ⟨f3, Y3, b3⟩ := ok_winning (w := w) (base := base) T
  refine fd_ok T.f_law_rounds_right S (fun vs H Q E h => ?_) (fun _ _ _ _ _ _ us hl => match us, hl with | [_], _ => rfl) (fun cdv A outer s H vs Q E hr h => ?_)
  · obtain ⟨gm, s, qs, ms, rfl, _⟩ := h; rfl
  · obtain ⟨gm, s, qs, ms, rfl, hM, hS, k⟩ := h
    have nd := S.nd
    refine ⟨_, pss_cons (ps_par (i := 1) (j := 2) rfl nd rfl rfl (by decide) rfl rfl (pa_cons (c_prop (pv 0) T.c_Match T.p_Match_position (ok_position T) (hr.mono (by decide))) (pa_cons (GF.pe_listY (GF.pg_meth0 (pv 0) T.c_Match T.m_Match_rounds Y1 (hr.mono (by decide)) b1 .nil) hr rfl T.z_list boot_list) pa_nil)) (by rfl))
      (pss_cons (ps_for PassesOwn.never rfl (pi_list (pv 2)) (pg_name (i := 3) nd rfl (.inl rfl))
        (pss_cons (ps_par (i := 4) (j := 5) rfl nd rfl rfl (by decide) rfl rfl (pa_cons (GF.pe_listY (GF.pg_meth0 (pv 1) T.c_Position T.m_Position_winning Y3 (hr.mono (by decide)) b3 .nil) (hr.mono (by decide)) rfl T.z_list boot_list) (pa_cons (GF.pe_listY (GF.pg_meth0 (pv 1) T.c_Position T.m_Position_moves Y2 (hr.mono (by decide)) b2 .nil) (hr.mono (by decide)) rfl T.z_list boot_list) pa_nil)) (by rfl))
        (pss_cons (ps_if (PW.pt (pw_or (PW.pt (pw_and (pt_cmpR (op_neD hr.units) (pv 4) (pe_lst pa_nil) (nomark _)) (pw_and1 (pt_cmpR (op_neD hr.units) (pv 3) (pe_ix ix_list (pv 4) pe_int (fun _ _ => rfl)) (nomark _)))))
            (pw_or (PW.pt (pw_and (pt_cmpR (op_eqD hr.units) (pv 4) (pe_lst pa_nil) (nomark _)) (pw_and1 (pt_cmpR (op_neD hr.units) (pv 3) (pe_ix ix_list (pv 5) pe_int (fun _ _ => rfl)) (nomark _)))))
              (pw_or1 (pt_cmpR (op_notInD (Room.u65 hr)) (pv 3) (pv 5) (by rfl)))))) (pss_one ps_never) pss_nil)
        (pss_cons (ps_if (pt_cmpR op_ne (c_meth0 (pv 1) T.c_Position T.m_Position_wins (ok_wins T) (hr.mono (by decide))) (pe_cmpR (op_neD hr.units) (pv 4) (pe_lst pa_nil) (nomark _)) (nomark _)) (pss_one ps_never) pss_nil)
        (pss_one (ps_set (i := 1) nd rfl (.inl rfl) (c_meth (pv 1) T.c_Position T.m_Position_after (ok_after T) (hr.mono (by decide)) (pa_cons (pv 3) pa_nil))))))))
      (pss_cons (ps_set (i := 6) nd rfl (.inl rfl) (pe_op op_modN (pe_callTy call_int1 (by rfl) T.z_int boot_int (pa_cons (pe_op op_add (pe_op op_add (c_prop (pv 0) T.c_Match T.p_Match_mover (ok_mover T) (hr.mono (by decide))) (pe_callB call_len_seq (by rfl) T.z_len PySem.boot_len (pa_cons (pv 2) pa_nil))) pe_int) pa_nil)) pe_int))
      (pss_one (ps_ret (pe_and (pe_cmpR (op_eqD hr.units) (GF.pe_listY (GF.pg_meth0 (pv 1) T.c_Position T.m_Position_moves Y2 (hr.mono (by decide)) b2 .nil) (hr.mono (by decide)) rfl T.z_list boot_list) (pe_lst pa_nil) (nomark _))
        (pe_and (pe_not (c_meth0 (pv 1) T.c_Position T.m_Position_wins (ok_wins T) (hr.mono (by decide)))) (pe_one (pe_cmpR op_eq (pv 6) (c_meth0 (pv 0) T.c_Match T.m_Match_winner (ok_winner T) (hr.mono (by decide))) (nomark _))))))))), ?_⟩
    obtain ⟨dx, t, us, hg, hPs, _⟩ := id hM
    obtain ⟨_, dy, tt, uu, hs', _⟩ := id hPs
    have o := hPs.psok
    refine ⟨_, rfl, gm, dx, _, rfl, hg, gm, s, qs, ms, rfl, hM, _, rfl, gm, dx, _, rfl, hg, rfl, _, itM (rnds qs), ⟨gm, s, qs, ms, rfl, hM, rfl, rfl⟩, Nat.le_trans (rnds18 hS) line18, itM_mono _, fun F fs H1 fF s1 hF hfl hfi => ⟨_, _, rfl, ?_⟩⟩
    have hFm := its_mvs hfl hfi
    refine ⟨_, rfl, F, rfl, ⟨fs, .inl (.inl hF)⟩, ?_⟩
    refine for_list (K := K) (a := F) (xs := fs) (fun i σ H' => Same H1 H' ∧ ∃ (sA : Addr) (qs' : List Pl) (v3 v4 v5 v6 : Option V), σ = [some (.ref gm), some (.ref sA), some (.ref F), v3, v4, v5, v6] ∧ PosAt K H' sA qs' ∧ Sml qs' ∧ (rnds qs).drop i = rnds qs')
      ⟨Same.refl _, s, qs, none, none, none, none, rfl, hPs.kp (GF.Same.kp s1), hS, rfl⟩ (fun i σ H' _ h => .inl (.inl (h.1 _ _ hF))) ?_ ?_
    · rintro i x σ H' hx ⟨s2, sA, qs', v3, v4, v5, v6, rfl, hP', hS', hd⟩
      have o' := hP'.psok
      have hi : i < (rnds qs).length := by rw [← hfl]; exact (List.getElem?_eq_some_iff.mp hx).1
      obtain ⟨x', ex, hmv⟩ := hFm.2 i (rnds qs)[i] (List.getElem?_eq_getElem hi)
      rw [hx] at ex
      cases ex
      have hm : fmv qs' = some (rnds qs)[i] := by
        have e := hd
        rw [List.drop_eq_getElem_cons hi] at e
        cases ef : fmv qs' with
        | none => rw [rnds_none ef] at e; cases e
        | some m => rw [rnds_some o' ef] at e; injection e with e _; rw [e]
      have hd2 : (rnds qs).drop (i + 1) = rnds (aft qs' (rnds qs)[i]) := by
        have e := hd
        rw [List.drop_eq_getElem_cons hi, rnds_some o' hm] at e
        injection e
      generalize (rnds qs)[i] = m at hmv hm hd2
      have hmv := hmv.kp (GF.Same.kp s2)
      obtain ⟨_, dz, _, _, hsA, _⟩ := id hP'
      refine ⟨_, rfl, sA, dz, _, rfl, hsA, rfl, _, itM (wns qs'), ⟨sA, qs', rfl, hP', rfl, rfl⟩, Nat.le_trans (hP'.wns18 hS') line18, itM_mono _, fun D1 gs H3 f3 s3 h3 l3 i3 => ?_⟩
      have hG3 := its_mvs l3 i3
      have hP3 := hP'.kp (GF.Same.kp s3)
      refine ⟨_, rfl, sA, dz, _, rfl, s3 _ _ hsA, rfl, _, itM (mvs qs'), ⟨sA, qs', rfl, hP3, rfl, rfl⟩, Nat.le_trans (hP3.mvs18 hS') line18, itM_mono _, fun D2 ds H4 f4 s4 h4 l4 i4 => ⟨_, _, rfl, ?_⟩⟩
      have hD4 := its_mvs l4 i4
      have hG4 := hG3.kp (GF.Same.kp s4)
      have h34 := s4 _ _ h3
      have hmv4 := hmv.kp (GF.Same.kp (s3.trans s4))
      refine ⟨_, rfl, (by show 0 ≤ sizeLine; decide), fun e1 he1 => ?_⟩
      have s5 := same_upd (o := .lst []) he1
      refine ⟨.list ((wns qs').map mvD), .list [], .lst (.inl (.inl (s5 _ _ h34))) (dp_mvs (hG4.kp (GF.Same.kp s5))), .lst (.inl (.inl upd_same)) .nil, mvs_shaped _, by decide +kernel, _, rfl, ?_⟩
      rw [dp_ne]
      refine ite2 (fun hA => ?_) (fun hA => ?_)
      have hne : wns qs' ≠ [] := fun z => by rw [z] at hA; simp at hA
      have hg0 : (wns qs')[0]? = some m := (fmv_wns hm).elim id fun z => absurd z.1 hne
      have hlw : 0 < (wns qs').length := List.length_pos_iff.mpr hne
      obtain ⟨g0, eg0, hg0v⟩ := hG4.2 0 m hg0
      refine ⟨_, rfl, _, rfl, D1, _, _, g0, rfl, rfl, .inl (.inl (s5 _ _ h34)), atI_nat (j := 0) eg0, mvD m, mvD m, dp_mv (hmv4.kp (GF.Same.kp s5)), dp_mv (hg0v.kp (GF.Same.kp s5)), rfl, rfl, _, rfl, ?_⟩
      rw [mm_eqv]
      refine iteF ?_
      refine ⟨_, rfl, (by show 0 ≤ sizeLine; decide), fun e2 he2 => ?_⟩
      have s6 := same_upd (o := .lst []) he2
      have s56 := s5.trans s6
      refine ⟨.list ((wns qs').map mvD), .list [], .lst (.inl (.inl (s56 _ _ h34))) (dp_mvs (hG4.kp (GF.Same.kp s56))), .lst (.inl (.inl upd_same)) .nil, mvs_shaped _, by decide +kernel, _, rfl, ?_⟩
      rw [dp_ne]
      rw [decide_eq_false hne]
      refine iteF (iteF ?_)
      have hwd : (!decide (wns qs' = [])) = true := by rw [decide_eq_false hne]; rfl
      rotate_left
      have hne : wns qs' = [] := by
        by_cases z : wns qs' = []
        · exact z
        · exact absurd (by rw [decide_eq_false z]; rfl) hA
      have hd0 : (mvs qs')[0]? = some m := (fmv_wns hm).elim (fun z => by rw [hne] at z; simp at z) fun z => z.2
      refine iteF ?_
      refine ⟨_, rfl, (by show 0 ≤ sizeLine; decide), fun e2 he2 => ?_⟩
      have s6 := same_upd (o := .lst []) he2
      have s56 := s5.trans s6
      refine ⟨.list ((wns qs').map mvD), .list [], .lst (.inl (.inl (s56 _ _ h34))) (dp_mvs (hG4.kp (GF.Same.kp s56))), .lst (.inl (.inl upd_same)) .nil, mvs_shaped _, by decide +kernel, _, rfl, ?_⟩
      rw [dp_ne]
      rw [decide_eq_true hne]
      refine iteT ?_
      obtain ⟨d0, ed0, hd0v⟩ := hD4.2 0 m hd0
      refine ⟨_, rfl, _, rfl, D2, _, _, d0, rfl, rfl, .inl (.inl (s56 _ _ h4)), atI_nat (j := 0) ed0, mvD m, mvD m, dp_mv (hmv4.kp (GF.Same.kp s56)), dp_mv (hd0v.kp (GF.Same.kp s56)), rfl, rfl, _, rfl, ?_⟩
      rw [mm_eqv]
      refine iteF ?_
      have hwd : (!decide (wns qs' = [])) = false := by rw [decide_eq_true hne]; rfl
      all_goals
        have hmm : m ∈ mvs qs' := mem_mvs.mpr (fmv_legal hm)
        refine ⟨_, rfl, _, rfl, mvD m, (mvs qs').map mvD, dp_mv (hmv4.kp (GF.Same.kp s56)), .lst (.inl (.inl (s56 _ _ h4))) (dp_mvs (hD4.kp (GF.Same.kp s56))), rfl, mvs_shaped _, _, rfl, ?_⟩
        rw [mvs_any, decide_eq_true hmm]
        refine iteF ?_
        have hP6 := hP3.kp (GF.Same.kp (s4.trans s56))
        obtain ⟨_, dz6, _, _, hsA6, _⟩ := id hP6
        refine ⟨_, rfl, sA, dz6, _, rfl, hsA6, rfl, sA, qs', rfl, hP6, fun H7 s7 => ?_⟩
        refine ⟨_, rfl, (by show 0 ≤ sizeLine; decide), fun e3 he3 => ?_⟩
        have s8 := same_upd (o := .lst []) he3
        have s58 := (s56.trans s7).trans s8
        refine ⟨.list ((wns qs').map mvD), .list [], .lst (.inl (.inl (s58 _ _ h34))) (dp_mvs (hG4.kp (GF.Same.kp s58))), .lst (.inl (.inl upd_same)) .nil, mvs_shaped _, by decide +kernel, ?_⟩
        rw [dp_ne]
        have hiff := wns_iff o'
        have hxw : decide (xo qs' ≠ 0) = !decide (wns qs' = []) := by
          by_cases z : wns qs' = []
          · have : ¬ xo qs' ≠ 0 := fun q => (hiff.mpr q) z
            rw [decide_eq_true z, decide_eq_false this]
            rfl
          · rw [decide_eq_false z, decide_eq_true (hiff.mp z)]
            rfl
        rw [hxw]
        refine ⟨rfl, _, rfl, ?_⟩
        refine ite2 (fun hbad => ?_) (fun _ => ?_)
        · simp at hbad
        have hP8 := hP6.kp (GF.Same.kp (s7.trans s8))
        obtain ⟨_, dz8, _, _, hsA8, _⟩ := id hP8
        obtain ⟨q, hq, hqn⟩ := fmv_legal hm
        refine ⟨_, rfl, sA, dz8, _, rfl, hsA8, rfl, _, rfl, sA, qs', x, m, q, rfl, hP8, hmv4.kp (GF.Same.kp s58), hq, hqn, fun y H9 s9 hy hy9 => ?_⟩
        exact ⟨(((s2.trans s3).trans s4).trans s58).trans s9, y, aft qs' m, _, _, _, _, rfl, hy9, hS'.aft m, hd2⟩
    · rintro σ H' ⟨s2, sA, qs', v3, v4, v5, v6, rfl, hP', hS', hd⟩
      have hnil : rnds qs' = [] := by rw [← hd, hfl, List.drop_length]
      have hfn : fmv qs' = none := by
        cases e : fmv qs' with
        | none => rfl
        | some m => rw [rnds_some hP'.psok e] at hnil; cases hnil
      obtain ⟨hw0, hm0⟩ := fmv_none hfn
      have hx0 : xo qs' = 0 := by
        by_cases z : xo qs' = 0
        · exact z
        · exact absurd hw0 ((wns_iff hP'.psok).mpr z)
      have sA' := s1.trans s2
      have hM2 := hM.kp (GF.Same.kp sA')
      have hF2 := s2 _ _ hF
      obtain ⟨_, dz, _, _, hsA, _⟩ := id hP'
      refine ⟨_, rfl, gm, dx, _, rfl, sA' _ _ hg, gm, s, qs, ms, rfl, hM2, _, rfl, F, _, rfl, .inl (.inl (.inl hF2)), _, _, rfl, rfl, _, _, rfl, rfl, .inl ⟨_, rfl, _, _, rfl, rfl, (by show (2 : Int) ≠ 0; decide), ?_⟩⟩
      refine ⟨_, rfl, sA, dz, _, rfl, hsA, rfl, _, itM (mvs qs'), ⟨sA, qs', rfl, hP', rfl, rfl⟩, Nat.le_trans (hP'.mvs18 hS') line18, itM_mono _, fun D ys H3 f3 s3 h3 l3 i3 => ?_⟩
      have hY := its_mvs l3 i3
      refine ⟨(by show 0 ≤ sizeLine; decide), fun e he => ?_⟩
      have s4 := same_upd (o := .lst []) he
      refine ⟨.list ((mvs qs').map mvD), .list [], .lst (.inl (.inl (s4 _ _ h3))) (dp_mvs (hY.kp (GF.Same.kp s4))), .lst (.inl (.inl upd_same)) .nil, mvs_shaped _, by decide +kernel, _, rfl, ?_⟩
      rw [dp_ne, decide_eq_true hm0]
      have s34 := s3.trans s4
      have hP4 := hP'.kp (GF.Same.kp s34)
      refine iteT ⟨_, rfl, sA, dz, _, rfl, s34 _ _ hsA, rfl, sA, qs', rfl, hP4, fun H5 s5 => ⟨_, rfl, _, rfl, ?_⟩⟩
      rw [decide_eq_false (by rw [hx0]; simp)]
      have s35 := s34.trans s5
      have hM5 := hM2.kp (GF.Same.kp s35)
      refine iteT ⟨_, rfl, _, rfl, gm, dx, _, rfl, s35 _ _ (sA' _ _ hg), rfl, gm, s, qs, ms, rfl, hM5, fun H6 s6 => ⟨rfl, ?_⟩⟩
      have hp := parity _ (Nat.le_refl _) o
      have hval : Int.fmod ((((ms.length % 2 : Nat) : Int) + (fs.length : Int)) + 1) 2 = ((wnr qs ms.length : Nat) : Int) := by
        have e : (((ms.length % 2 : Nat) : Int) + (fs.length : Int)) + 1 = ((ms.length % 2 + fs.length + 1 : Nat) : Int) := by omega
        rw [e, show (2 : Int) = ((2 : Nat) : Int) from rfl, fmN]
        congr 1
        rw [hfl]
        unfold wnr
        by_cases z : xo qs ≠ 0
        · rw [if_pos z]
          have := hp.mp z
          omega
        · rw [if_neg z]
          have : ¬ (rnds qs).length % 2 = 1 := fun q => z (hp.mpr q)
          omega
      have hd : decide (V.int (Int.fmod ((((ms.length % 2 : Nat) : Int) + (fs.length : Int)) + 1) 2) = sN (wnr qs ms.length)) = true := decide_eq_true (by rw [hval]; rfl)
      have k := k H6 ((sA'.trans s35).trans s6)
      rw [← hd] at k
      exact k
end
end RW
end

/-! ## F31 -/
section
set_option Elab.async false
set_option linter.all false
set_option maxRecDepth 100000
set_option maxHeartbeats 4000000
namespace RW
open PySem PySem.Spec PyProof.Rows L2
theorem cut_to1 (ys : List V) : cutV ys none (some 1) = ys.take 1 := by
  unfold cutV
  rw [show (1 : Int) = ((1 : Nat) : Int) from rfl, HT.sIx_nat]
  show (ys.drop 0).take (min 1 _ - 0) = _
  rw [List.drop_zero, Nat.sub_zero]
  cases ys with
  | nil => rfl
  | cons a l => rw [Nat.min_eq_left (by simp)]
theorem cut_fr1 (ys : List V) : cutV ys (some 1) none = ys.drop 1 := by
  unfold cutV
  rw [show (1 : Int) = ((1 : Nat) : Int) from rfl, HT.sIx_nat]
  show (ys.drop (min 1 ys.length)).take (ys.length - min 1 ys.length) = _
  cases ys with
  | nil => rfl
  | cons a l =>
    rw [Nat.min_eq_left (by simp)]
    exact List.take_of_length_le (by simp)
theorem MvsAt.take {H : Hp} {us : List V} {ms : List (Nat × Nat)} (h : MvsAt H us ms) (n : Nat) : MvsAt H (us.take n) (ms.take n) := by
  refine ⟨by rw [List.length_take, List.length_take, h.1], fun i m e => ?_⟩
  rw [List.getElem?_take] at e
  split at e
  · rename_i hi
    obtain ⟨x, e1, e2⟩ := h.2 i m e
    exact ⟨x, by rw [List.getElem?_take, if_pos hi]; exact e1, e2⟩
  · cases e
theorem MvsAt.drop {H : Hp} {us : List V} {ms : List (Nat × Nat)} (h : MvsAt H us ms) (n : Nat) : MvsAt H (us.drop n) (ms.drop n) := by
  refine ⟨by rw [List.length_drop, List.length_drop, h.1], fun i m e => ?_⟩
  rw [List.getElem?_drop] at e
  obtain ⟨x, e1, e2⟩ := h.2 (n + i) m e
  exact ⟨x, by rw [List.getElem?_drop]; exact e1, e2⟩
section
variable {w : World} {K : PySem.W.Frag} {mg : Str → Option Value} {base : Heap}
/-! the first rounds -/
def spFR (K : PySem.W.Frag) : Sp := fun vs H Q _ => ∃ (gm s : Addr) (qs : List Pl) (ms : List (Nat × Nat)) (m : Nat), vs = [.ref gm, sN m] ∧ MatchAt K H gm s qs ms ∧ 1 ≤ m ∧ m ≤ 9 ∧ ∀ (l : Addr) (ys : List V) (H' : Hp), Same H H' → H' l = some (.lst ys) → MvsAt H' ys ((rnds qs).take m) → Q (.ref l) H'
theorem ok_fr (T : Txt K mg) : F0 PP w K mg base 18 (a_law_first_rounds K) (spFR K) := by
  have S : FnScope ["_law_game", "_law_many", "_law_found", "_law_move"] ["_law_game", "_law_many"] (defScope s_law_first_rounds) := ⟨rfl, rfl, rfl, by decide +kernel, rfl, by decide +kernel, by decide +kernel⟩
  obtain ⟨f1, Y1, b1⟩ := ok_rounds (w := w) (base := base) T
  refine fd_ok T.f_law_first_rounds S (fun vs H Q E h => ?_) (fun _ _ _ _ _ _ us hl => match us, hl with | [_, _], _ => rfl) (fun cdv A outer s H vs Q E hr h => ?_)
  · obtain ⟨gm, s, qs, ms, m, rfl, _⟩ := h; rfl
  · obtain ⟨gm, s, qs, ms, m, rfl, hM, h1, h9, k⟩ := h
    have nd := S.nd
    refine ⟨_, pss_cons (ps_set (i := 2) nd rfl (.inl rfl) (pe_lst pa_nil))
      (pss_cons (GF.ps_forGR (ifound := 2) (imove := 3) (imany := 1) PassesOwn.never hr (GF.pg_meth0 (pv 0) T.c_Match T.m_Match_rounds Y1 (hr.mono (by decide)) b1 .nil) nd rfl rfl rfl (by decide) (by decide) rfl rfl rfl (by decide +kernel) (by decide +kernel) (by decide +kernel) rfl T.z_len PySem.boot_len (by decide) (by decide +kernel) rfl rfl)
      (pss_one (ps_ret (pv 2)))), ?_⟩
    refine ⟨(by show 0 ≤ sizeLine; decide), fun l hl => ?_⟩
    have s1 := same_upd (o := .lst []) hl
    have hM1 := hM.kp (GF.Same.kp s1)
    obtain ⟨dx, t, us, hg, _⟩ := id hM1
    refine ⟨_, rfl, gm, dx, _, rfl, hg, rfl, (rnds qs).length, itM (rnds qs), ⟨gm, s, qs, ms, rfl, hM1, rfl, rfl⟩, l, (m : Int), rfl, rfl, upd_same, by omega, ?_, itM_mono _, fun ys H2 σ' hσ hl2 hk hi => ?_⟩
    · exact Int.le_trans (by omega : (m : Int) ≤ 9) (by decide)
    have sm : Same H H2 := fun b o e => hk b o (ne_of_none e hl) (s1 _ _ e)
    refine ⟨fun ⟨h2, h3⟩ => ?_, fun ⟨h2, h3⟩ => ?_⟩
    · have hlen : ys.length = ((rnds qs).take m).length := by rw [List.length_take]; omega
      refine k l ys H2 sm hl2 (its_mvs hlen fun i x e => ?_)
      obtain ⟨mm, e1, e2⟩ := hi i x e
      have him : i < m := by have := (List.getElem?_eq_some_iff.mp e).1; omega
      exact ⟨mm, by rw [List.getElem?_take, if_pos him]; exact e1, e2⟩
    · have ht : (rnds qs).take m = rnds qs := List.take_of_length_le (by omega)
      have hQ := k l ys H2 sm hl2 (by rw [ht]; exact its_mvs h2 hi)
      rcases hσ with rfl | ⟨v, rfl⟩
      · exact ⟨_, rfl, hQ⟩
      · exact ⟨_, rfl, hQ⟩
/-! behind the first move -/
def spWR (K : PySem.W.Frag) : Sp := spRR K
theorem ok_wr (T : Txt K mg) : F0 PP w K mg base 20 (a_law_walked_right K) (spWR K) := by
  have S : FnScope ["_law_game", "_law_twin", "_law_due", "_law_move"] ["_law_game"] (defScope s_law_walked_right) := ⟨rfl, rfl, rfl, by decide +kernel, rfl, by decide +kernel, by decide +kernel⟩
  obtain ⟨f1, Y1, b1⟩ := ok_rounds (w := w) (base := base) T
  refine fd_ok T.f_law_walked_right S (fun vs H Q E h => ?_) (fun _ _ _ _ _ _ us hl => match us, hl with | [_], _ => rfl) (fun cdv A outer s H vs Q E hr h => ?_)
  · obtain ⟨gm, s, qs, ms, rfl, _⟩ := h; rfl
  · obtain ⟨gm, s, qs, ms, rfl, hM, hS, k⟩ := h
    have nd := S.nd
    refine ⟨_, pss_cons (ps_par (i := 1) (j := 2) rfl nd rfl rfl (by decide) rfl rfl (pa_cons (c_make T.mk_Match (ok_match0 T) (hr.mono (by decide)) T.g_Match (pa_cons (c_prop (pv 0) T.c_Match T.p_Match_position (ok_position T) (hr.mono (by decide))) pa_nil)) (pa_cons (GF.pe_listY (GF.pg_meth0 (pv 0) T.c_Match T.m_Match_rounds Y1 (hr.mono (by decide)) b1 .nil) hr rfl T.z_list boot_list) pa_nil)) (by rfl))
      (pss_cons (ps_for PassesOwn.never rfl (pi_list (pe_slice sl_list (pv 2) po_none (po_some pe_int))) (pg_name (i := 3) nd rfl (.inl rfl))
        (pss_one (ps_expr (c_meth (pv 1) T.c_Match T.m_Match_take (ok_mtake T) (hr.mono (by decide)) (pa_cons (pe_ix ix_tup (pv 3) pe_int (fun _ _ => rfl)) (pa_cons (pe_ix ix_tup (pv 3) pe_int (fun _ _ => rfl)) pa_nil))))))
      (pss_one (ps_ret (pe_and (pe_cmpR (op_eqD hr.units) (GF.pe_listY (GF.pg_meth0 (pv 1) T.c_Match T.m_Match_rounds Y1 (hr.mono (by decide)) b1 .nil) hr rfl T.z_list boot_list) (pe_slice sl_list (pv 2) (po_some pe_int) po_none) (nomark _))
        (pe_one (pe_cmpR op_eq (pe_callB (call_len_own T.m_Match_len (ok_mlen T) (hr.mono (by decide))) (by rfl) T.z_len PySem.boot_len (pa_cons (pv 1) pa_nil)) (pe_callB call_len_seq (by rfl) T.z_len PySem.boot_len (pa_cons (pe_slice sl_list (pv 2) po_none (po_some pe_int)) pa_nil)) (nomark _))))))), ?_⟩
    obtain ⟨dx, t, us, hg, hPs, _⟩ := id hM
    obtain ⟨_, dy, tt, uu, hs', _⟩ := id hPs
    have o := hPs.psok
    refine ⟨_, rfl, gm, dx, _, rfl, hg, gm, s, qs, ms, rfl, hM, ?_⟩
    intro tw dw htw hdw hne
    have s0 : Same H (upd (upd H dw (.own tw)) tw (.ins (kMatch K) dw [])) := same_upd3 (same_upd hdw) (by rw [upd_ne (Ne.symm hne)]; exact htw)
    refine ⟨tw, dw, s, qs, rfl, upd_same, hPs.kp (GF.Same.kp s0), fun H1 x1 hT1 => ⟨rfl, ?_⟩⟩
    have s1 : Same H H1 := fun b o e => x1 b o (ne_of_none e htw) (s0 _ _ e)
    have hM1 := hM.kp (GF.Same.kp s1)
    refine ⟨_, rfl, gm, dx, _, rfl, s1 _ _ hg, rfl, _, itM (rnds qs), ⟨gm, s, qs, ms, rfl, hM1, rfl, rfl⟩, Nat.le_trans (rnds18 hS) line18, itM_mono _, fun F fs H2 fF s2 hF hfl hfi => ⟨_, _, rfl, ?_⟩⟩
    have hFm := its_mvs hfl hfi
    have hT2 := hT1.kp (GF.Same.kp s2)
    refine ⟨_, rfl, 1, rfl, F, _, rfl, .inl (.inl hF), fun C hC => ?_⟩
    rw [cut_to1]
    have s3 := same_upd (o := .lst (fs.take 1)) hC
    have hC3 : (upd H2 C (.lst (fs.take 1))) C = some (.lst (fs.take 1)) := upd_same
    have hT3 := hT2.kp (GF.Same.kp s3)
    have hF3 := s3 _ _ hF
    have s13 := (s1.trans s2).trans s3
    generalize upd H2 C (.lst (fs.take 1)) = H3 at s3 hC3 hT3 hF3 s13
    obtain ⟨dx3, _, _, hg3, _⟩ := id hT3
    have nCt : C ≠ tw := fun z => by rw [z, hg3] at hC3; cases hC3
    have nFt : F ≠ tw := fun z => by rw [z, hg3] at hF3; cases hF3
    have hFm3 := hFm.kp (GF.Same.kp s3)
    refine ⟨C, rfl, ⟨_, .inl (.inl hC3)⟩, ?_⟩
    refine for_list (K := K) (a := C) (xs := fs.take 1) (fun i σ H' => ∃ (s' : Addr) (qs' : List Pl) (ms' : List (Nat × Nat)) (v : Option V), σ = [some (.ref gm), some (.ref tw), some (.ref F), v] ∧ SmX tw H3 H' ∧ MatchAt K H' tw s' qs' ms' ∧ (i = 0 ∧ qs' = qs ∧ ms' = [] ∨ i = 1 ∧ ∃ m, fmv qs = some m ∧ qs' = aft qs m ∧ ms' = [m]))
      ⟨s, qs, [], none, rfl, SmX.refl _ _, hT3, .inl ⟨rfl, rfl, rfl⟩⟩ (fun i σ H' _ ⟨_, _, _, _, _, sx, _⟩ => .inl (.inl (sx _ _ nCt hC3))) ?_ ?_
    · rintro i x σ H' hx ⟨s', qs', ms', v, rfl, sx, hT', hcase⟩
      rw [List.getElem?_take] at hx
      have hi0 : i = 0 := by
        by_cases z : i < 1
        · omega
        · rw [if_neg z] at hx; cases hx
      subst hi0
      have hx : fs[0]? = some x := hx
      rcases hcase with ⟨_, rfl, rfl⟩ | ⟨z, _⟩
      · have hlen : 0 < (rnds qs').length := by rw [← hfl]; exact (List.getElem?_eq_some_iff.mp hx).1
        cases hm : fmv qs' with
        | none => rw [rnds_none hm] at hlen; exact absurd hlen (Nat.lt_irrefl _)
        | some m =>
          have e := rnds_some o hm
          obtain ⟨x', ex, hmv⟩ := hFm3.2 0 m (by rw [e]; rfl)
          rw [hx] at ex
          cases ex
          obtain ⟨a, rfl, ha⟩ := hmv.oth hg3 sx
          obtain ⟨dx', _, _, hg', _⟩ := id hT'
          obtain ⟨q, hq, hqn⟩ := fmv_legal hm
          refine ⟨_, rfl, tw, dx', _, rfl, hg', rfl, _, rfl, a, _, _, sN m.1, rfl, rfl, .inl (.inl ha), rfl, _, rfl, a, _, _, sN m.2, rfl, rfl, .inl (.inl ha), rfl, tw, s', qs', [], m, q, rfl, hT', by decide, hq, hqn, fun s6 H6 x6 hM6 => ?_⟩
          exact ⟨s6, _, _, _, rfl, sx.trans x6, hM6, .inr ⟨rfl, m, rfl, rfl, rfl⟩⟩
      · cases z
    · rintro σ H' ⟨s', qs', ms', v, rfl, sx, hT', hcase⟩
      have hlt : (fs.take 1).length = min 1 (rnds qs).length := by rw [List.length_take, hfl]
      have hfin : rnds qs' = (rnds qs).drop 1 ∧ ms'.length = min 1 (rnds qs).length ∧ Sml qs' := by
        rcases hcase with ⟨h0, rfl, rfl⟩ | ⟨h1, m, hm, rfl, rfl⟩
        · have : (rnds qs').length = 0 := by omega
          have e := List.length_eq_zero_iff.mp this
          rw [e]
          exact ⟨rfl, rfl, hS⟩
        · rw [rnds_some o hm]
          exact ⟨rfl, by simp, hS.aft m⟩
      obtain ⟨hr1, hl1, hS'⟩ := hfin
      obtain ⟨dx', _, _, hg', _⟩ := id hT'
      refine ⟨_, rfl, tw, dx', _, rfl, hg', rfl, _, itM (rnds qs'), ⟨tw, s', qs', ms', rfl, hT', rfl, rfl⟩, Nat.le_trans (rnds18 hS') line18, itM_mono _, fun D ds H4 f4 s4 h4 l4 i4 => ?_⟩
      have hD4 := its_mvs l4 i4
      have hF4 := s4 _ _ (sx _ _ nFt hF3)
      refine ⟨_, rfl, 1, rfl, F, _, rfl, .inl (.inl hF4), fun e he => ?_⟩
      rw [cut_fr1]
      have s5 := same_upd (o := .lst (fs.drop 1)) he
      have hFm4 : MvsAt H4 fs (rnds qs) := ⟨hFm3.1, fun i m e => let ⟨x, e1, e2⟩ := hFm3.2 i m e; ⟨x, e1, (e2.oth hg3 sx).kp (GF.Same.kp s4)⟩⟩
      have hFm5 := (hFm4.kp (GF.Same.kp s5)).drop 1
      refine ⟨.list ((rnds qs').map mvD), .list (((rnds qs).drop 1).map mvD), .lst (.inl (.inl (s5 _ _ h4))) (dp_mvs (hD4.kp (GF.Same.kp s5))), .lst (.inl (.inl upd_same)) (dp_mvs hFm5), mvs_shaped _, mvs_shaped _, _, rfl, ?_⟩
      have he1 : PyData.eqv (.list ((rnds qs').map mvD)) (.list (((rnds qs).drop 1).map mvD)) = true := by
        show PyData.eqvAll _ _ = true
        rw [mvs_eqv, decide_eq_true hr1]
      rw [he1]
      have hF5 := s5 _ _ hF4
      have hT5 := hT'.kp (GF.Same.kp (s4.trans s5))
      obtain ⟨dx5, _, _, hg5, _⟩ := id hT5
      refine iteT ⟨_, rfl, tw, dx5, _, rfl, hg5, tw, s', qs', ms', rfl, hT5, ms'.length, rfl, by rw [hl1]; exact Nat.lt_of_le_of_lt (Nat.min_le_left _ _) (by decide), ?_⟩
      refine ⟨_, rfl, 1, rfl, F, _, rfl, .inl (.inl hF5), fun e2 he2 => ⟨e2, _, rfl, .inl (.inl (.inl upd_same)), rfl, ?_⟩⟩
      rw [cut_to1]
      have s6 := same_upd (o := .lst (fs.take 1)) he2
      have hd : decide (V.int (ms'.length : Int) = V.int ((fs.take 1).length : Int)) = true := decide_eq_true (by rw [hlt, hl1])
      have sxx : SmX tw H (upd (upd H4 e (.lst (fs.drop 1))) e2 (.lst (fs.take 1))) := ((SmX.same s13).trans sx).trans (SmX.same ((s4.trans s5).trans s6))
      have k := k _ (sxx.toSame htw)
      rw [← hd] at k
      exact k
/-! set -/
theorem ok_lset (T : Txt K mg) : F0 PP w K mg base 14 (a_law_set K) (spLeave K) := by
  have S : FnScope ["_law_game", "_law_index", "_law_size"] ["_law_game", "_law_index", "_law_size"] (defScope s_law_set) := ⟨rfl, rfl, rfl, by decide +kernel, rfl, by decide +kernel, by decide +kernel⟩
  refine fd_ok T.f_law_set S (fun vs H Q E h => ?_) (fun _ _ _ _ _ _ us hl => match us, hl with | [_, _, _], _ => rfl) (fun cdv A outer s H vs Q E hr h => ?_)
  · obtain ⟨p, s, qs, ms, i, z, q, rfl, _⟩ := h; rfl
  · obtain ⟨p, s, qs, ms, i, z, q, rfl, hM, hms, hi, hz, hn, k⟩ := h
    obtain ⟨dx, t, us, hp, _⟩ := id hM
    refine ⟨_, pss_one (ps_asg (pv 2) (pg_sub (pv 0) (pv 1) (set_own T.m_Match_setitem T.nq_Match (ok_msetitem T) hr))), ?_⟩
    exact ⟨_, rfl, _, rfl, _, rfl, p, dx, _, rfl, hp, p, s, qs, ms, i, z, q, rfl, hM, hms, hi, hz, hn, k⟩
end
end RW
end

/-! ## F32 -/
section
set_option Elab.async false
set_option linter.all false
set_option maxRecDepth 100000
set_option maxHeartbeats 4000000
namespace RW
open PySem PySem.Spec PyProof.Rows L2
/-! ### plain piles, two of them -/
abbrev P1 (n : Nat) : Pl := ⟨true, n, []⟩
theorem psok2 (a b : Nat) : PsOk [P1 a, P1 b] := by
  intro q hq hb
  rcases List.mem_cons.mp hq with h | h
  · subst h; cases hb
  · rw [List.mem_singleton.mp h] at hb; cases hb
theorem mvT2 (f : Pl → List Nat) (p q : Pl) : mvT f [p, q] 2 = ((f p).map fun k => (0, k)) ++ ((f q).map fun k => (1, k)) := by
  have h1 : mvT f [p, q] 1 = mvT f [p, q] 0 ++ (f p).map fun k => (0, k) := mvT_succ rfl
  have h2 : mvT f [p, q] 2 = mvT f [p, q] 1 ++ (f q).map fun k => (1, k) := mvT_succ rfl
  rw [h2, h1]
  rfl
theorem xo2 (a b : Nat) : xo [P1 a, P1 b] = a ^^^ b := by
  show (0 ^^^ a) ^^^ b = _
  rw [Nat.zero_xor]
theorem wns2 (a b : Nat) : wns [P1 a, P1 b] = ((if b < a then [a - b] else []).map fun k => (0, k)) ++ ((if a < b then [b - a] else []).map fun k => (1, k)) := by
  show mvT _ [P1 a, P1 b] 2 = _
  rw [mvT2, xo2]
  have e1 : a ^^^ b ^^^ wo (P1 a) = b := by
    show a ^^^ b ^^^ a = b
    rw [Nat.xor_comm a b, Nat.xor_assoc, Nat.xor_self, Nat.xor_zero]
  have e2 : a ^^^ b ^^^ wo (P1 b) = a := by
    show a ^^^ b ^^^ b = a
    rw [Nat.xor_assoc, Nat.xor_self, Nat.xor_zero]
  rw [e1, e2]
  rfl
theorem mvs2 (a b : Nat) : mvs [P1 a, P1 b] = ((List.range' 1 a).map fun k => (0, k)) ++ ((List.range' 1 b).map fun k => (1, k)) := mvT2 nums _ _
theorem fmv_gt {a b : Nat} (h : b < a) : fmv [P1 a, P1 b] = some (0, a - b) := by
  unfold fmv
  rw [wns2, if_pos h, if_neg (by omega)]
  rfl
theorem fmv_lt {a b : Nat} (h : a < b) : fmv [P1 a, P1 b] = some (1, b - a) := by
  unfold fmv
  rw [wns2, if_neg (by omega), if_pos h]
  rfl
theorem fmv_eq {a : Nat} (h : 1 ≤ a) : fmv [P1 a, P1 a] = some (0, 1) := by
  unfold fmv
  rw [wns2, if_neg (by omega)]
  show (mvs [P1 a, P1 a]).head? = _
  rw [mvs2]
  cases a with
  | zero => omega
  | succ n => rfl
theorem fmv_00 : fmv [P1 0, P1 0] = none := by
  unfold fmv
  rw [wns2, if_neg (by omega)]
  show (mvs [P1 0, P1 0]).head? = _
  rw [mvs2]
  rfl
theorem rnds_11 : rnds [P1 1, P1 1] = [(0, 1), (1, 1)] := by
  rw [rnds_some (psok2 1 1) (fmv_eq (Nat.le_refl 1))]
  show (0, 1) :: rnds [P1 0, P1 1] = _
  rw [rnds_some (psok2 0 1) (fmv_lt (by decide))]
  show (0, 1) :: (1, 1) :: rnds [P1 0, P1 0] = _
  rw [rnds_none fmv_00]
theorem rnds_far1 {n : Nat} (h : 2 ≤ n) : rnds [P1 n, P1 1] = [(0, n - 1), (0, 1), (1, 1)] := by
  rw [rnds_some (psok2 n 1) (fmv_gt (by omega))]
  have : aft [P1 n, P1 1] (0, n - 1) = [P1 1, P1 1] := by
    show [P1 (n - (n - 1)), P1 1] = _
    rw [show n - (n - 1) = 1 by omega]
  rw [this, rnds_11]
theorem rnds_eq1 {n : Nat} (h : 1 ≤ n) : (rnds [P1 n, P1 n]).take 1 = [(0, 1)] := by
  rw [rnds_some (psok2 n n) (fmv_eq h)]
  rfl
theorem rnds_7 {n : Nat} (h : 8 ≤ n) : (rnds [P1 7, P1 n]).take 1 = [(1, n - 7)] := by
  rw [rnds_some (psok2 7 n) (fmv_lt (by omega))]
  rfl
/-! ### data -/
theorem lay_l (ms : List (Nat × Nat)) : PyData.canLay0 (.list (ms.map mvD)) = true := mvs_lay ms
theorem lay_t (ms : List (Nat × Nat)) : PyData.canLay0 (.tuple (ms.map mvD)) = true := mvs_lay ms
theorem shL {ds : List PyData} (h : PyData.canLayAll0 ds = true) (h2 : PyData.depthAll ds ≤ 10) : SeqAt.shaped (.list ds) = true := by
  show (PyData.canLayAll0 ds && decide (PyData.depthAll ds + 1 ≤ 64)) = true
  rw [h, decide_eq_true (by omega)]
  rfl
def A1 (a : Int) (ms : List (Nat × Nat)) : PyData := .list [.int a, .list (ms.map mvD)]
def A2 (ms : List (Nat × Nat)) (a b : Int) : PyData := .list [.tuple (ms.map mvD), .int a, .int b]
def A3 (a b : Int) (ms : List (Nat × Nat)) : PyData := .list [.int a, .int b, .list (ms.map mvD)]
theorem A1_sh (a : Int) (ms : List (Nat × Nat)) : SeqAt.shaped (A1 a ms) = true := by
  refine shL ?_ ?_
  · show (true && (PyData.canLay0 (.list (ms.map mvD)) && true)) = true
    rw [lay_l]; rfl
  · show max 0 (max (PyData.depthAll (ms.map mvD) + 1) 0) ≤ 10
    have := mvs_depth ms
    omega
theorem A2_sh (ms : List (Nat × Nat)) (a b : Int) : SeqAt.shaped (A2 ms a b) = true := by
  refine shL ?_ ?_
  · show (PyData.canLay0 (.tuple (ms.map mvD)) && (true && (true && true))) = true
    rw [lay_t]; rfl
  · show max (PyData.depthAll (ms.map mvD) + 1) (max 0 (max 0 0)) ≤ 10
    have := mvs_depth ms
    omega
theorem A3_sh (a b : Int) (ms : List (Nat × Nat)) : SeqAt.shaped (A3 a b ms) = true := by
  refine shL ?_ ?_
  · show (true && (true && (PyData.canLay0 (.list (ms.map mvD)) && true))) = true
    rw [lay_l]; rfl
  · show max 0 (max 0 (max (PyData.depthAll (ms.map mvD) + 1) 0)) ≤ 10
    have := mvs_depth ms
    omega
theorem A1_eq (a : Int) (ms : List (Nat × Nat)) : PyData.eqv (A1 a ms) (A1 a ms) = true := by
  show ((a == a) && (PyData.eqvAll (ms.map mvD) (ms.map mvD) && true)) = true
  rw [mvs_eqv]; simp
theorem A2_eq (ms : List (Nat × Nat)) (a b : Int) : PyData.eqv (A2 ms a b) (A2 ms a b) = true := by
  show (PyData.eqvAll (ms.map mvD) (ms.map mvD) && ((a == a) && ((b == b) && true))) = true
  rw [mvs_eqv]; simp
theorem A3_eq (a b : Int) (ms : List (Nat × Nat)) : PyData.eqv (A3 a b ms) (A3 a b ms) = true := by
  show ((a == a) && ((b == b) && (PyData.eqvAll (ms.map mvD) (ms.map mvD) && true))) = true
  rw [mvs_eqv]; simp
theorem msL_eq (ms : List (Nat × Nat)) : PyData.eqv (.list (ms.map mvD)) (.list (ms.map mvD)) = true := by
  show PyData.eqvAll _ _ = true
  rw [mvs_eqv]; simp
section
variable {w : World} {K : PySem.W.Frag} {mg : Str → Option Value} {base : Heap}
theorem plain_make {H1 : Hp} {n : Nat} {Q : VK} (hn : (n : Int) ≤ heapMax) (k : ∀ b H', Same H1 H' → H1 b = none → PileAt K H' b (P1 n) → Q (.ref b) H') :
    ∀ x dx, H1 x = none → H1 dx = none → dx ≠ x → spPlain0 K (V.ref x :: [sN n]) (upd (upd H1 dx (.own x)) x (.ins (kPlain K) dx [])) (fun v H2 => v = .non ∧ Q (.ref x) H2) E0 := by
  intro x dy hx hdy hne
  have sm : Same H1 (upd (upd H1 dy (.own x)) x (.ins (kPlain K) dy [])) := same_upd3 (same_upd hdy) (by rw [upd_ne (Ne.symm hne)]; exact hx)
  exact ⟨x, dy, n, rfl, hn, upd_same, fun H' sx hx' => ⟨rfl, k x H' (fun b o e => sx b o (ne_of_none e hx) (sm _ _ e)) hx (plain_at rfl hn hx')⟩⟩
theorem match_make {H1 : Hp} {s : Addr} {qs : List Pl} {Q : VK} (hP : PosAt K H1 s qs) (k : ∀ b H', Same H1 H' → H1 b = none → MatchAt K H' b s qs [] → Q (.ref b) H') :
    ∀ x dx, H1 x = none → H1 dx = none → dx ≠ x → spMatch0 K (V.ref x :: [.ref s]) (upd (upd H1 dx (.own x)) x (.ins (kMatch K) dx [])) (fun v H2 => v = .non ∧ Q (.ref x) H2) E0 := by
  intro x dx hx hdx hne
  have s0 : Same H1 (upd (upd H1 dx (.own x)) x (.ins (kMatch K) dx [])) := same_upd3 (same_upd hdx) (by rw [upd_ne (Ne.symm hne)]; exact hx)
  exact ⟨x, dx, s, qs, rfl, upd_same, hP.kp (GF.Same.kp s0), fun H' x1 hT => ⟨rfl, k x H' (fun b o e => x1 b o (ne_of_none e hx) (s0 _ _ e)) hx hT⟩⟩
theorem mv2 {H : Hp} {a : Addr} {x y : V} {i j : Nat} (h : H a = some (.tup [x, y])) (hx : x = sN i) (hy : y = sN j) : mvV H (.ref a) (i, j) := ⟨a, rfl, by rw [h, hx, hy]⟩
theorem sz {n : Nat} (h : n ≤ 18) : n ≤ sizeLine := Nat.le_trans h line18
theorem sz1 {x : V} : [x].length ≤ sizeLine := sz (by simp)
theorem sz2 {x y : V} : [x, y].length ≤ sizeLine := sz (by simp)
theorem sz3 {x y z : V} : [x, y, z].length ≤ sizeLine := sz (by simp)
theorem mvs1 {H : Hp} {x : V} {m : Nat × Nat} (h : mvV H x m) : MvsAt H [x] [m] := ⟨rfl, fun i k e => by
  match i, e with
  | 0, e => cases e; exact ⟨x, rfl, h⟩⟩
/-! lost -/
def spLost : Sp := fun vs H Q _ => ∃ n : Nat, vs = [sN n] ∧ 8 ≤ n ∧ (n : Int) ≤ heapMax ∧ ∀ H', Same H H' → Q (.bl true) H'
theorem ok_lost (T : Txt K mg) : F0 PP w K mg base 20 (a_law_lost_right K) spLost := by
  have S : FnScope ["_law_far", "_law_game"] ["_law_far"] (defScope s_law_lost_right) := ⟨rfl, rfl, rfl, by decide +kernel, rfl, by decide +kernel, by decide +kernel⟩
  refine fd_ok T.f_law_lost_right S (fun vs H Q E h => ?_) (fun _ _ _ _ _ _ us hl => match us, hl with | [_], _ => rfl) (fun cdv A outer s H vs Q E hr h => ?_)
  · obtain ⟨n, rfl, _⟩ := h; rfl
  · obtain ⟨n, rfl, h8, hmax, k⟩ := h
    have nd := S.nd
    refine ⟨_, pss_cons (ps_set (i := 1) nd rfl (.inl rfl) (c_make T.mk_Match (ok_match0 T) (hr.mono (by decide)) T.g_Match (pa_cons (pe_op (op_own T.m_Plain_xor T.sf_Plain (ok_xor T) (hr.mono (by decide)))
          (c_make T.mk_Plain (ok_plain0 T) (hr.mono (by decide)) T.g_Plain (pa_cons (pv 0) pa_nil)) (c_make T.mk_Plain (ok_plain0 T) (hr.mono (by decide)) T.g_Plain (pa_cons (pv 0) pa_nil))) pa_nil)))
      (pss_cons (ps_if (pt_cmpR (op_neD hr.units) (pe_lst (pa_cons (c_meth0 (pv 1) T.c_Match T.m_Match_winner (ok_winner T) (hr.mono (by decide))) (pa_cons (c_call (ok_fr T) (hr.mono (by decide)) T.g_law_first_rounds T.f_law_first_rounds.kp (pa_cons (pv 1) (pa_cons pe_int pa_nil))) pa_nil)))
          (pe_lst (pa_cons pe_int (pa_cons (pe_lst (pa_cons (pe_tup (pa_cons pe_int (pa_cons pe_int pa_nil))) pa_nil)) pa_nil))) (nomark _)) (pss_one ps_never) pss_nil)
      (pss_cons (ps_expr (c_call (ok_lset T) (hr.mono (by decide)) T.g_law_set T.f_law_set.kp (pa_cons (pv 1) (pa_cons pe_int (pa_cons pe_int pa_nil)))))
      (pss_cons (ps_if (pt_cmpR (op_neD hr.units) (pe_lst (pa_cons (c_prop (pv 1) T.c_Match T.p_Match_past (ok_past T) (hr.mono (by decide))) (pa_cons (c_prop (pv 1) T.c_Match T.p_Match_mover (ok_mover T) (hr.mono (by decide))) (pa_cons (c_meth0 (pv 1) T.c_Match T.m_Match_winner (ok_winner T) (hr.mono (by decide))) pa_nil))))
          (pe_lst (pa_cons (pe_tup (pa_cons (pe_tup (pa_cons pe_int (pa_cons (pe_op op_sub (pv 0) pe_int) pa_nil))) pa_nil)) (pa_cons pe_int (pa_cons pe_int pa_nil)))) (nomark _)) (pss_one ps_never) pss_nil)
      (pss_one (ps_ret (pe_cmpR (op_eqD hr.units) (c_call (ok_fr T) (hr.mono (by decide)) T.g_law_first_rounds T.f_law_first_rounds.kp (pa_cons (pv 1) (pa_cons pe_int pa_nil))) (pe_lst (pa_cons (pe_tup (pa_cons pe_int (pa_cons (pe_op op_sub (pv 0) pe_int) pa_nil))) pa_nil)) (nomark _))))))), ?_⟩
    refine ⟨_, rfl, ?_⟩
    intro x0 y0 hx0 hy0 hn0
    have q0 : Same H (upd (upd H y0 (.own x0)) x0 (.ins (kPlain K) y0 [])) := same_upd3 (same_upd hy0) (by rw [upd_ne (Ne.symm hn0)]; exact hx0)
    refine ⟨x0, y0, n, rfl, hmax, upd_same, fun H1 z1 g1 => ⟨rfl, ?_⟩⟩
    have s1 : Same H H1 := fun b o e => z1 b o (ne_of_none e hx0) (q0 _ _ e)
    have h1 : PileAt K H1 x0 (P1 n) := plain_at rfl hmax g1
    refine ⟨_, rfl, ?_⟩
    intro x1 y1 hx1 hy1 hn1
    have q1 : Same H1 (upd (upd H1 y1 (.own x1)) x1 (.ins (kPlain K) y1 [])) := same_upd3 (same_upd hy1) (by rw [upd_ne (Ne.symm hn1)]; exact hx1)
    refine ⟨x1, y1, n, rfl, hmax, upd_same, fun H2 z2 g2 => ⟨rfl, ?_⟩⟩
    have s2 : Same H1 H2 := fun b o e => z2 b o (ne_of_none e hx1) (q1 _ _ e)
    have h2 : PileAt K H2 x1 (P1 n) := plain_at rfl hmax g2
    have h12 := h1.kp (GF.Same.kp s2)
    obtain ⟨_, da, ea⟩ := pile_plain h12 rfl
    obtain ⟨_, db, eb⟩ := pile_plain h2 rfl
    refine ⟨x0, x1, da, db, _, _, rfl, rfl, ea, eb, x0, x1, P1 n, P1 n, rfl, h12, h2, rfl, fun ps H3 s3 f3 h3 => ⟨⟨ps, rfl⟩, ?_⟩⟩
    intro x2 y2 hx2 hy2 hn2
    have q2 : Same H3 (upd (upd H3 y2 (.own x2)) x2 (.ins (kMatch K) y2 [])) := same_upd3 (same_upd hy2) (by rw [upd_ne (Ne.symm hn2)]; exact hx2)
    refine ⟨x2, y2, ps, _, rfl, upd_same, h3.kp (GF.Same.kp q2), fun H4 z4 hM => ⟨rfl, ?_⟩⟩
    have s4 : Same H3 H4 := fun b o e => z4 b o (ne_of_none e hx2) (q2 _ _ e)
    have sA := (s1.trans s2).trans (s3.trans s4)
    obtain ⟨dx, _, _, hg, _⟩ := id hM
    have hx0' : xo [P1 n, P1 n] = 0 := by rw [xo2, Nat.xor_self]
    have hw1 : wnr [P1 n, P1 n] 0 = 1 := by unfold wnr; rw [if_neg (by rw [hx0']; simp)]
    refine ⟨_, rfl, x2, dx, _, rfl, hg, rfl, x2, ps, _, [], rfl, hM, fun H5 s5 => ?_⟩
    have hM5 := hM.kp (GF.Same.kp s5)
    refine ⟨_, rfl, x2, ps, _, [], 1, rfl, hM5, by decide, by decide, fun l ys H6 s6 hl hy => ⟨sz2, fun L hL => ?_⟩⟩
    rw [rnds_eq1 (by omega)] at hy
    refine ⟨sz2, fun t ht => ⟨sz1, fun l2 hl2 => ⟨sz2, fun L2 hL2 => ?_⟩⟩⟩
    have s7 := same_upd (o := .lst [sN (wnr [P1 n, P1 n] 0), .ref l]) hL
    have s8 := same_upd (o := .tup [.int 0, .int 1]) ht
    have s9 := same_upd (o := .lst [.ref t]) hl2
    have s10 := same_upd (o := .lst [.int 1, .ref l2]) hL2
    have s710 := ((s7.trans s8).trans s9).trans s10
    refine ⟨A1 1 [(0, 1)], A1 1 [(0, 1)], .lst (.inl (.inl (((s8.trans s9).trans s10) _ _ upd_same))) (.cons ?_ (.cons (.lst (.inl (.inl (s710 _ _ hl))) (dp_mvs (hy.kp (GF.Same.kp s710)))) .nil)),
      .lst (.inl (.inl upd_same)) (.cons (.int 1) (.cons (.lst (.inl (.inl (s10 _ _ upd_same))) (dp_mvs (mvs1 (m := (0, 1)) (mv2 ((s9.trans s10) _ _ upd_same) rfl rfl)))) .nil)), A1_sh _ _, A1_sh _ _, _, rfl, ?_⟩
    · show Dp _ _ (sN (wnr [P1 n, P1 n] 0)) _
      rw [hw1]; exact .int 1
    rw [A1_eq]
    refine iteF ?_
    have sB := (s5.trans s6).trans s710
    have hM10 := hM.kp (GF.Same.kp sB)
    have h7n : n - 7 ∈ nums (P1 n) := by
      show n - 7 ∈ List.range' 1 n
      rw [List.mem_range']
      exact ⟨n - 8, by omega, by omega⟩
    refine ⟨_, rfl, x2, ps, _, [], 0, 7, P1 n, rfl, hM10, by decide, rfl, by show 7 ≤ n; omega, h7n, fun s' H11 x11 hM11 => ?_⟩
    have hqs : aft [P1 n, P1 n] (0, n - 7) = [P1 7, P1 n] := by
      show [P1 (n - (n - 7)), P1 n] = _
      rw [show n - (n - 7) = 7 by omega]
    have hM11 : MatchAt K H11 x2 s' [P1 7, P1 n] [(0, n - 7)] := by rw [← hqs]; exact hM11
    have sC : Same H H11 := fun b o e => x11 b o (ne_of_none e ((s1.trans (s2.trans s3)).free hx2)) ((sA.trans sB) _ _ e)
    obtain ⟨dx2, _, _, hg2, _⟩ := id hM11
    have hx7 : xo [P1 7, P1 n] ≠ 0 := by
      rw [xo2]
      intro z
      have := xor_cancel z
      omega
    have hw7 : wnr [P1 7, P1 n] 1 = 1 := by unfold wnr; rw [if_pos hx7]
    have hn7 : V.int ((n : Int) - 7) = sN (n - 7) := by unfold sN; congr 1; omega
    refine ⟨_, rfl, x2, dx2, _, rfl, hg2, x2, s', _, [(0, n - 7)], rfl, hM11, (by show 1 < 1000; decide), fun tp us H12 s12 ft htp hus => ?_⟩
    have hM12 := hM11.kp (GF.Same.kp s12)
    refine ⟨_, rfl, x2, dx2, _, rfl, s12 _ _ hg2, x2, s', _, [(0, n - 7)], rfl, hM12, ?_⟩
    refine ⟨_, rfl, x2, dx2, _, rfl, s12 _ _ hg2, rfl, x2, s', _, [(0, n - 7)], rfl, hM12, fun H13 s13 => ⟨sz3, fun L3 hL3 => ?_⟩⟩
    refine ⟨_, rfl, _, _, rfl, rfl, sz2, fun t2 ht2 => ⟨sz1, fun t3 ht3 => ⟨sz3, fun L4 hL4 => ?_⟩⟩⟩
    have s14 := same_upd (o := .lst [.ref tp, sN 1, sN (wnr [P1 7, P1 n] 1)]) hL3
    have s15 := same_upd (o := .tup [.int 0, V.int ((n : Int) - 7)]) ht2
    have s16 := same_upd (o := .tup [.ref t2]) ht3
    have s17 := same_upd (o := .lst [.ref t3, .int 1, .int 1]) hL4
    have sD := (((s13.trans s14).trans s15).trans s16).trans s17
    refine ⟨A2 [(0, n - 7)] 1 1, A2 [(0, n - 7)] 1 1, .lst (.inl (.inl (((s15.trans s16).trans s17) _ _ upd_same))) (.cons (.tup (.inl (.inl (sD _ _ htp))) (dp_mvs (hus.kp (GF.Same.kp sD)))) (.cons (.int 1) (.cons ?_ .nil))),
      .lst (.inl (.inl upd_same)) (.cons (.tup (.inl (.inl (s17 _ _ upd_same))) (dp_mvs (mvs1 (m := (0, n - 7)) (mv2 ((s16.trans s17) _ _ upd_same) rfl hn7)))) (.cons (.int 1) (.cons (.int 1) .nil))), A2_sh _ _ _, A2_sh _ _ _, _, rfl, ?_⟩
    · show Dp _ _ (sN (wnr [P1 7, P1 n] 1)) _
      rw [hw7]; exact .int 1
    rw [A2_eq]
    refine iteF ?_
    have hM17 := hM12.kp (GF.Same.kp sD)
    refine ⟨_, rfl, x2, s', _, _, 1, rfl, hM17, by decide, by decide, fun l3 zs H18 s18 hl3 hz => ?_⟩
    rw [rnds_7 h8] at hz
    refine ⟨_, rfl, _, _, rfl, rfl, sz2, fun t4 ht4 => ⟨sz1, fun l4 hl4 => ?_⟩⟩
    have s19 := same_upd (o := .tup [.int 1, V.int ((n : Int) - 7)]) ht4
    have s20 := same_upd (o := .lst [.ref t4]) hl4
    have s1920 := s19.trans s20
    refine ⟨.list ([(1, n - 7)].map mvD), .list ([(1, n - 7)].map mvD), .lst (.inl (.inl (s1920 _ _ hl3))) (dp_mvs (hz.kp (GF.Same.kp s1920))), .lst (.inl (.inl upd_same)) (dp_mvs (mvs1 (m := (1, n - 7)) (mv2 (s20 _ _ upd_same) rfl hn7))), mvs_shaped _, mvs_shaped _, ?_⟩
    rw [msL_eq]
    exact k _ (((sC.trans s12).trans sD).trans (s18.trans s1920))
end
end RW
end

/-! ## F33 -/
section
set_option Elab.async false
set_option linter.all false
set_option maxRecDepth 100000
set_option maxHeartbeats 4000000
namespace RW
open PySem PySem.Spec PyProof.Rows L2
theorem msT_eq (ms : List (Nat × Nat)) : PyData.eqv (.tuple (ms.map mvD)) (.tuple (ms.map mvD)) = true := by
  show PyData.eqvAll _ _ = true
  rw [mvs_eqv]; simp
theorem mvs_cons {H : Hp} {x : V} {m : Nat × Nat} {us : List V} {ms : List (Nat × Nat)} (hx : mvV H x m) (h : MvsAt H us ms) : MvsAt H (x :: us) (m :: ms) := ⟨by simp [h.1], fun i k e => by
  cases i with
  | zero => cases e; exact ⟨x, rfl, hx⟩
  | succ i => exact h.2 i k e⟩
section
variable {w : World} {K : PySem.W.Frag} {mg : Str → Option Value} {base : Heap}
def spLaw (K : PySem.W.Frag) : Sp := fun vs H Q _ => ∃ (a : Addr) (ns : List Int), vs = [.ref a] ∧ SqL K H a (ns.map V.int) ∧ ∀ H', Q (.bl true) H'
theorem ok_law (T : Txt K mg) {fd : FuncData} (F : FunD K "law" "law" (defArgs s_law) (defBody s_law) (defScope s_law) [] [] (a_law K) fd) : FnOk PP w K mg base CX0 21 (a_law K) fd ["_law_script"] (spLaw K) := by
  have S : FnScope ["_law_script", "_law_pen_here", "_law_turn", "_law_game", "_law_past", "_law_real", "_law_far"] ["_law_script"] (defScope s_law) := ⟨rfl, rfl, rfl, by decide +kernel, rfl, by decide +kernel, by decide +kernel⟩
  refine F.ok S (fun vs H Q E h => ?_) (fun cdv A outer s H vs Q E hr h => ?_)
  · obtain ⟨a, ns, rfl, _⟩ := h; rfl
  · obtain ⟨a, ns, rfl, hl, k⟩ := h
    have nd := S.nd
    have hr8 := hr.mono (show 17 ≤ 20 by decide)
    refine ⟨_, PSs.nox (pss_cons (ps_set (i := 1) nd rfl (.inl rfl) (c_call (ok_pen T) (hr.mono (by decide)) T.g_law_pen T.f_law_pen.kp (pa_cons (pv 0) pa_nil)))
      (pss_cons (ps_for PassesOwn.never rfl (pi_range1 rfl T.z_range (pa_cons pe_int pa_nil)) (pg_name (i := 2) nd rfl (.inl rfl))
        (pss_cons (ps_set (i := 3) nd rfl (.inl rfl) (c_make T.mk_Match (ok_match0 T) (hr.mono (by decide)) T.g_Match (pa_cons (c_call (ok_lpos T) (hr.mono (by decide)) T.g_law_position T.f_law_position.kp (pa_cons (c_call (ok_heaps T) (hr.mono (by decide)) T.g_law_heaps T.f_law_heaps.kp (pa_cons (pv 1) (pa_cons pe_int (pa_cons pe_int pa_nil)))) pa_nil)) pa_nil)))
        (pss_cons (ps_expr (c_call (ok_play T) (hr.mono (by decide)) T.g_law_play T.f_law_play.kp (pa_cons (pv 1) (pa_cons (pv 3) (pa_cons pe_int pa_nil)))))
        (pss_cons (ps_par (i := 4) (j := 5) rfl nd rfl rfl (by decide) rfl rfl (pa_cons (c_prop (pv 3) T.c_Match T.p_Match_past (ok_past T) (hr.mono (by decide))) (pa_cons (c_prop (pv 3) T.c_Match T.p_Match_position (ok_position T) (hr.mono (by decide))) pa_nil)) (by rfl))
        (pss_cons (ps_if (PW.pt (pw_or (pt_not (pt_val (c_call (ok_rr T) hr T.g_law_rounds_right T.f_law_rounds_right.kp (pa_cons (pv 3) pa_nil)))) (pw_or1 (pt_not (pt_val (c_call (ok_wr T) hr T.g_law_walked_right T.f_law_walked_right.kp (pa_cons (pv 3) pa_nil))))))) (pss_one ps_never) pss_nil)
        (pss_one (ps_if (PW.pt (pw_or (pt_cmpR (op_neD hr.units) (c_prop (pv 3) T.c_Match T.p_Match_past (ok_past T) (hr.mono (by decide))) (pv 4) (nomark _)) (pw_or1 (pt_cmpR (op_ne_own T.m_Position_eq T.ty_Position.hm T.eq_Position (ok_pos_eq T) (hr.mono (by decide))) (c_prop (pv 3) T.c_Match T.p_Match_position (ok_position T) (hr.mono (by decide))) (pv 5) (nomark _))))) (pss_one ps_never) pss_nil)))))))
      (pss_cons (ps_set (i := 6) nd rfl (.inl rfl) (pe_op op_add (pe_op op_pow pe_int pe_int) (c_call (ok_draw T) (hr.mono (by decide)) T.g_law_draw T.f_law_draw.kp (pa_cons (pv 1) (pa_cons (pe_op op_pow pe_int pe_int) pa_nil)))))
      (pss_cons (ps_set (i := 3) nd rfl (.inl rfl) (c_make T.mk_Match (ok_match0 T) (hr.mono (by decide)) T.g_Match (pa_cons (pe_op (op_own T.m_Plain_xor T.sf_Plain (ok_xor T) (hr.mono (by decide)))
          (c_make T.mk_Plain (ok_plain0 T) (hr.mono (by decide)) T.g_Plain (pa_cons (pv 6) pa_nil)) (c_make T.mk_Plain (ok_plain0 T) (hr.mono (by decide)) T.g_Plain (pa_cons pe_int pa_nil))) pa_nil)))
      (pss_cons (ps_if (pt_cmpR (op_neD hr.units) (pe_lst (pa_cons (c_meth0 (pv 3) T.c_Match T.m_Match_winner (ok_winner T) (hr.mono (by decide))) (pa_cons (c_call (ok_fr T) (hr.mono (by decide)) T.g_law_first_rounds T.f_law_first_rounds.kp (pa_cons (pv 3) (pa_cons pe_int pa_nil))) pa_nil)))
          (pe_lst (pa_cons pe_int (pa_cons (pe_lst (pa_cons (pe_tup (pa_cons pe_int (pa_cons (pe_op op_sub (pv 6) pe_int) pa_nil))) (pa_cons (pe_tup (pa_cons pe_int (pa_cons pe_int pa_nil))) (pa_cons (pe_tup (pa_cons pe_int (pa_cons pe_int pa_nil))) pa_nil)))) pa_nil))) (nomark _)) (pss_one ps_never) pss_nil)
      (pss_cons (ps_expr (c_meth (pv 3) T.c_Match T.m_Match_take (ok_mtake T) (hr.mono (by decide)) (pa_cons pe_int (pa_cons (pe_op op_sub (pv 6) pe_int) pa_nil))))
      (pss_cons (ps_if (pt_cmpR (op_neD hr.units) (pe_lst (pa_cons (c_meth0 (pv 3) T.c_Match T.m_Match_winner (ok_winner T) (hr.mono (by decide))) (pa_cons (c_prop (pv 3) T.c_Match T.p_Match_mover (ok_mover T) (hr.mono (by decide))) (pa_cons (c_call (ok_fr T) (hr.mono (by decide)) T.g_law_first_rounds T.f_law_first_rounds.kp (pa_cons (pv 3) (pa_cons pe_int pa_nil))) pa_nil))))
          (pe_lst (pa_cons pe_int (pa_cons pe_int (pa_cons (pe_lst (pa_cons (pe_tup (pa_cons pe_int (pa_cons pe_int pa_nil))) (pa_cons (pe_tup (pa_cons pe_int (pa_cons pe_int pa_nil))) pa_nil))) pa_nil)))) (nomark _)) (pss_one ps_never) pss_nil)
      (pss_one (ps_ret (c_call (ok_lost T) hr T.g_law_lost_right T.f_law_lost_right.kp (pa_cons (pv 6) pa_nil))))))))))), ?_⟩
    refine ⟨_, rfl, a, ns, rfl, hl, fun p c H1 s1 fp hP => ?_⟩
    refine ⟨5, rfl, by decide, by decide, ?_⟩
    refine for_range (lo := 0) (n := 5) (fun i σ H' => ∃ (v2 v3 v4 v5 : Option V), σ = [some (.ref a), some (.ref p), v2, v3, v4, v5, none] ∧ PenAt H' p c (45 * i))
      ⟨none, none, none, none, rfl, hP⟩ ?_ ?_
    · rintro i σ H2 hi ⟨v2, v3, v4, v5, rfl, pa2⟩
      refine ⟨_, rfl, p, c, _, rfl, pa2, by omega, fun D us qs H3 x3 fD pa3 hD hh h3 => ?_⟩
      have hS : Sml qs := ⟨h3, fun q hq => by
        obtain ⟨j, hj, e⟩ := List.mem_iff_getElem.mp hq
        obtain ⟨v, _, l, _, _, _, h6, _⟩ := hh.2 j q (by rw [List.getElem?_eq_getElem hj, e])
        exact h6⟩
      refine ⟨D, us, qs, rfl, hD, hh, h3, fun s H4 s4 fs hPs => ?_⟩
      intro gm dg hgm hdg hng
      have q0 : Same H4 (upd (upd H4 dg (.own gm)) gm (.ins (kMatch K) dg [])) := same_upd3 (same_upd hdg) (by rw [upd_ne (Ne.symm hng)]; exact hgm)
      refine ⟨gm, dg, s, qs, rfl, upd_same, hPs.kp (GF.Same.kp q0), fun H5 x5 hM => ⟨rfl, ?_⟩⟩
      have s5 : Same H4 H5 := fun b o e => x5 b o (ne_of_none e hgm) (q0 _ _ e)
      have pa5 := (pa3.same s4).same s5
      refine ⟨_, rfl, _, rfl, p, c, gm, s, _, qs, rfl, pa5, by omega, hM, hS, fun s' qs' ms' H6 x6 pa6 hM6 hS6 hml => ?_⟩
      obtain ⟨dx, _, _, hg6, hPs6, _⟩ := id hM6
      refine ⟨_, rfl, gm, dx, _, rfl, hg6, gm, s', qs', ms', rfl, hM6, by omega, fun tp ts H7 s7 ft htp hts => ?_⟩
      have hM7 := hM6.kp (GF.Same.kp s7)
      refine ⟨_, rfl, gm, dx, _, rfl, s7 _ _ hg6, gm, s', qs', ms', rfl, hM7, _, _, rfl, ?_⟩
      refine ⟨_, rfl, gm, s', qs', ms', rfl, hM7, hS6, fun H8 s8 => ⟨true, rfl, iteF ?_⟩⟩
      have hM8 := hM7.kp (GF.Same.kp s8)
      refine ⟨_, rfl, gm, s', qs', ms', rfl, hM8, hS6, fun H9 s9 => ⟨true, rfl, iteF ?_⟩⟩
      have s79 := (s7.trans s8).trans s9
      have s89 := s8.trans s9
      have hM9 := hM8.kp (GF.Same.kp s9)
      refine ⟨_, rfl, gm, dx, _, rfl, s79 _ _ hg6, gm, s', qs', ms', rfl, hM9, by omega, fun tq ws H10 s10 fq htq hws => ?_⟩
      refine ⟨_, rfl, .tuple (ms'.map mvD), .tuple (ms'.map mvD), .tup (.inl (.inl htq)) (dp_mvs hws), .tup (.inl (.inl ((s89.trans s10) _ _ htp))) (dp_mvs (hts.kp (GF.Same.kp (s89.trans s10)))), mvs_shapedT _, mvs_shapedT _, _, rfl, ?_⟩
      rw [msT_eq]
      refine iteF ?_
      have hM10 := hM9.kp (GF.Same.kp s10)
      have s710 := s79.trans s10
      have hP10 := hPs6.kp (GF.Same.kp s710)
      obtain ⟨_, dz, _, _, hz, _⟩ := id hP10
      refine ⟨_, rfl, gm, dx, _, rfl, s710 _ _ hg6, gm, s', qs', ms', rfl, hM10, _, rfl, s', s', dz, dz, _, _, rfl, rfl, hz, hz, s', qs', rfl, hP10, fun H11 s11 => ⟨true, rfl, _, rfl, ?_⟩⟩
      refine iteF ?_
      exact ⟨_, _, _, _, rfl, (pa6.same (s710.trans s11)).le (by omega)⟩
    · rintro σ H2 ⟨v2, v3, v4, v5, rfl, pa2⟩
      have h20 : (10 : Int) ^ Int.toNat 20 = ((100000000000000000000 : Nat) : Int) := by decide
      refine ⟨_, _, rfl, rfl, ⟨by decide, by decide, by decide⟩, ?_⟩
      refine ⟨_, rfl, _, _, rfl, rfl, ⟨by decide, by decide, by decide⟩, p, c, _, 100000000000000000000, ?_, pa2, by decide, by decide, by decide, fun d H3 x3 pa3 hd => ?_⟩
      · show [V.ref p, V.int ((10 : Int) ^ Int.toNat 20)] = _
        rw [h20]
        rfl
      refine ⟨_, _, rfl, rfl, ?_⟩
      generalize hn : 100000000000000000000 + d = n
      have hfar : V.int ((10 : Int) ^ Int.toNat 20 + (d : Int)) = sN n := by
        rw [h20]; unfold sN; congr 1 <;> omega
      have hfar1 : V.int ((10 : Int) ^ Int.toNat 20 + (d : Int) - 1) = sN (n - 1) := by
        rw [h20]; unfold sN; congr 1 <;> omega
      have hmax : (n : Int) ≤ heapMax := Int.le_trans (by omega : (n : Int) ≤ 200000000000000000000) (by decide)
      refine ⟨_, rfl, ?_⟩
      intro x0 y0 hx0 hy0 hn0
      have q0 : Same H3 (upd (upd H3 y0 (.own x0)) x0 (.ins (kPlain K) y0 [])) := same_upd3 (same_upd hy0) (by rw [upd_ne (Ne.symm hn0)]; exact hx0)
      refine ⟨x0, y0, n, by rw [← hfar], hmax, upd_same, fun H4 z1 g1 => ⟨rfl, ?_⟩⟩
      have s1' : Same H3 H4 := fun b o e => z1 b o (ne_of_none e hx0) (q0 _ _ e)
      have h1 : PileAt K H4 x0 (P1 n) := plain_at rfl hmax g1
      intro x1 y1 hx1 hy1 hn1
      have q1 : Same H4 (upd (upd H4 y1 (.own x1)) x1 (.ins (kPlain K) y1 [])) := same_upd3 (same_upd hy1) (by rw [upd_ne (Ne.symm hn1)]; exact hx1)
      have hmax1 : ((1 : Nat) : Int) ≤ heapMax := by decide
      refine ⟨x1, y1, 1, rfl, hmax1, upd_same, fun H5 z2 g2 => ⟨rfl, ?_⟩⟩
      have s2 : Same H4 H5 := fun b o e => z2 b o (ne_of_none e hx1) (q1 _ _ e)
      have h2 : PileAt K H5 x1 (P1 1) := plain_at rfl hmax1 g2
      have h12 := h1.kp (GF.Same.kp s2)
      obtain ⟨_, da, ea⟩ := pile_plain h12 rfl
      obtain ⟨_, db, eb⟩ := pile_plain h2 rfl
      refine ⟨x0, x1, da, db, _, _, rfl, rfl, ea, eb, x0, x1, P1 n, P1 1, rfl, h12, h2, rfl, fun ps H6 s3 f3 h3 => ⟨⟨ps, rfl⟩, ?_⟩⟩
      intro x2 y2 hx2 hy2 hn2
      have q2 : Same H6 (upd (upd H6 y2 (.own x2)) x2 (.ins (kMatch K) y2 [])) := same_upd3 (same_upd hy2) (by rw [upd_ne (Ne.symm hn2)]; exact hx2)
      refine ⟨x2, y2, ps, _, rfl, upd_same, h3.kp (GF.Same.kp q2), fun H7 z4 hM => ⟨rfl, ?_⟩⟩
      obtain ⟨dx, _, _, hg, _⟩ := id hM
      have hxne : xo [P1 n, P1 1] ≠ 0 := by
        rw [xo2]
        intro z
        have := xor_cancel z
        omega
      have hw0 : wnr [P1 n, P1 1] 0 = 0 := by unfold wnr; rw [if_pos hxne]
      refine ⟨_, rfl, x2, dx, _, rfl, hg, rfl, x2, ps, _, [], rfl, hM, fun H8 s8 => ?_⟩
      have hM8 := hM.kp (GF.Same.kp s8)
      refine ⟨_, rfl, x2, ps, _, [], 9, rfl, hM8, by decide, by decide, fun l ys H9 s9 hl hy => ⟨sz2, fun L hL => ?_⟩⟩
      rw [rnds_far1 (by omega)] at hy
      have hy : MvsAt H9 ys [(0, n - 1), (0, 1), (1, 1)] := hy
      refine ⟨_, rfl, _, _, rfl, rfl, sz2, fun t1 ht1 => ⟨sz2, fun t2 ht2 => ⟨sz2, fun t3 ht3 => ⟨sz3, fun l2 hl2 => ⟨sz2, fun L2 hL2 => ?_⟩⟩⟩⟩⟩
      have a1 := same_upd (o := .lst [sN (wnr [P1 n, P1 1] 0), .ref l]) hL
      have a2 := same_upd (o := .tup [.int 0, V.int ((10 : Int) ^ Int.toNat 20 + (d : Int) - 1)]) ht1
      have a3 := same_upd (o := .tup [.int 0, .int 1]) ht2
      have a4 := same_upd (o := .tup [.int 1, .int 1]) ht3
      have a5 := same_upd (o := .lst [.ref t1, .ref t2, .ref t3]) hl2
      have a6 := same_upd (o := .lst [.int 0, .ref l2]) hL2
      have a26 := (((a2.trans a3).trans a4).trans a5).trans a6
      have a16 := a1.trans a26
      refine ⟨A1 0 [(0, n - 1), (0, 1), (1, 1)], A1 0 [(0, n - 1), (0, 1), (1, 1)], .lst (.inl (.inl (a26 _ _ upd_same))) (.cons ?_ (.cons (.lst (.inl (.inl (a16 _ _ hl))) (dp_mvs (hy.kp (GF.Same.kp a16)))) .nil)),
        .lst (.inl (.inl upd_same)) (.cons (.int 0) (.cons (.lst (.inl (.inl (a6 _ _ upd_same))) (dp_mvs (mvs_cons (m := (0, n - 1)) (mv2 ((((a3.trans a4).trans a5).trans a6) _ _ upd_same) rfl hfar1) (mvs_cons (m := (0, 1)) (mv2 (((a4.trans a5).trans a6) _ _ upd_same) rfl rfl) (mvs1 (m := (1, 1)) (mv2 ((a5.trans a6) _ _ upd_same) rfl rfl)))))) .nil)), A1_sh _ _, A1_sh _ _, _, rfl, ?_⟩
      · show Dp _ _ (sN (wnr [P1 n, P1 1] 0)) _
        rw [hw0]; exact .int 0
      rw [A1_eq]
      refine iteF ?_
      have sB := (s8.trans s9).trans a16
      have hM10 := hM.kp (GF.Same.kp sB)
      have h7n : n - 1 ∈ nums (P1 n) := by
        show n - 1 ∈ List.range' 1 n
        rw [List.mem_range']
        exact ⟨n - 2, by omega, by omega⟩
      refine ⟨_, rfl, x2, dx, _, rfl, sB _ _ hg, rfl, _, rfl, _, _, rfl, rfl, x2, ps, _, [], (0, n - 1), P1 n, ?_, hM10, by decide, rfl, h7n, fun s' H11 x11 hM11 => ?_⟩
      · show [V.ref x2, V.int 0, V.int ((10 : Int) ^ Int.toNat 20 + (d : Int) - 1)] = _
        rw [hfar1]; rfl
      have hqs : aft [P1 n, P1 1] (0, n - 1) = [P1 1, P1 1] := by
        show [P1 (n - (n - 1)), P1 1] = _
        rw [show n - (n - 1) = 1 by omega]
      have hM11 : MatchAt K H11 x2 s' [P1 1, P1 1] [(0, n - 1)] := by rw [← hqs]; exact hM11
      obtain ⟨dx2, _, _, hg2, _⟩ := id hM11
      have hw11 : wnr [P1 1, P1 1] 1 = 0 := by decide
      refine ⟨_, rfl, x2, dx2, _, rfl, hg2, rfl, x2, s', _, [(0, n - 1)], rfl, hM11, fun H12 s12 => ?_⟩
      have hM12 := hM11.kp (GF.Same.kp s12)
      refine ⟨_, rfl, x2, dx2, _, rfl, s12 _ _ hg2, x2, s', _, [(0, n - 1)], rfl, hM12, ?_⟩
      refine ⟨_, rfl, x2, s', _, _, 9, rfl, hM12, by decide, by decide, fun l3 zs H13 s13 hl3 hz => ⟨sz3, fun L3 hL3 => ?_⟩⟩
      rw [rnds_11] at hz
      have hz : MvsAt H13 zs [(0, 1), (1, 1)] := hz
      refine ⟨sz2, fun t4 ht4 => ⟨sz2, fun t5 ht5 => ⟨sz2, fun l4 hl4 => ⟨sz3, fun L4 hL4 => ?_⟩⟩⟩⟩
      have b1 := same_upd (o := .lst [sN (wnr [P1 1, P1 1] 1), sN (1 % 2), .ref l3]) hL3
      have b2 := same_upd (o := .tup [.int 0, .int 1]) ht4
      have b3 := same_upd (o := .tup [.int 1, .int 1]) ht5
      have b4 := same_upd (o := .lst [.ref t4, .ref t5]) hl4
      have b5 := same_upd (o := .lst [.int 0, .int 1, .ref l4]) hL4
      have b25 := ((b2.trans b3).trans b4).trans b5
      have b15 := b1.trans b25
      refine ⟨A3 0 1 [(0, 1), (1, 1)], A3 0 1 [(0, 1), (1, 1)], .lst (.inl (.inl (b25 _ _ upd_same))) (.cons ?_ (.cons (.int 1) (.cons (.lst (.inl (.inl (b15 _ _ hl3))) (dp_mvs (hz.kp (GF.Same.kp b15)))) .nil))),
        .lst (.inl (.inl upd_same)) (.cons (.int 0) (.cons (.int 1) (.cons (.lst (.inl (.inl (b5 _ _ upd_same))) (dp_mvs (mvs_cons (m := (0, 1)) (mv2 (((b3.trans b4).trans b5) _ _ upd_same) rfl rfl) (mvs1 (m := (1, 1)) (mv2 ((b4.trans b5) _ _ upd_same) rfl rfl))))) .nil))), A3_sh _ _ _, A3_sh _ _ _, _, rfl, ?_⟩
      · show Dp _ _ (sN (wnr [P1 1, P1 1] 1)) _
        rw [hw11]; exact .int 0
      rw [A3_eq]
      refine iteF ?_
      refine ⟨_, rfl, n, ?_, by omega, hmax, fun H' _ => k H'⟩
      show [V.int ((10 : Int) ^ Int.toNat 20 + (d : Int))] = _
      rw [hfar]
end
end RW
end

/-! ## F36 -/
section
set_option Elab.async false
set_option linter.all false
set_option maxRecDepth 100000
set_option maxHeartbeats 0
namespace RW
open PySem PySem.Spec PyProof.Rows L2
theorem facts {w : World} {K : PySem.W.Frag} {h : Heap} {mg : Str → Option Value} {f : Addr} (X : K.In h) (G : h.Ns mainGlobals mg) (hfa : mg ("law" : Str) = some (.ref f)) (c : SaysM hFa hEx hFn hFs K) :
    ∃ fd : FuncData, (∀ (s : Shared) (v : Value), BindsTo s fd ⟨[v], []⟩ [("_law_script", v)]) ∧ ∀ base : Heap, K.In base → base.Ns mainGlobals mg → FnOk PP w K mg base CX0 21 f fd ["_law_script"] (spLaw K) := by
  have T := txt_of X G c
  obtain ⟨fd, F⟩ := T.f_law
  have e := hfa.symm.trans T.g_law
  cases e
  have b := FunD.bindsA (ps := ["_law_script"]) F fun _ _ _ _ _ _ us hl => match us, hl with | [_], _ => rfl
  exact ⟨fd, fun s v => b s [v] rfl, fun base _ _ => ok_law T F⟩
end RW
open PySem PySem.W PySem.Calls PyProof.Rows
theorem PySem.Challenge.cw_freetakes_k86_whole_plays_of_matches_holds : PySem.Challenge.rw_freetakes_k86_whole_plays_of_matches.Holds := by
  w_on; o_law
  refine HandSHeadRun.head_any (r := OpenLaw.row PySem.Challenge.rw_freetakes_k86_whole_plays_of_matches) (q := view (OpenLaw.row PySem.Challenge.rw_freetakes_k86_whole_plays_of_matches).prog [89]) (H := RW.hk) (ob := RW.ob) (M := 12000) (loose := RW.names) (d := HandSHeadRun.topDef (OpenLaw.row PySem.Challenge.rw_freetakes_k86_whole_plays_of_matches).prog 89) (kwd := []) RW.ob_eq
    (by kernel_rfl) (fun s => by kernel_rfl) RW.run (by kernel_rfl) (by kernel_rfl) (by kernel_rfl) (by rfl) (by first | assumption | decide +kernel) (by decide +kernel) ⟨rfl, rfl, rfl, rfl, rfl, by decide +kernel⟩ ?hw ?hc
  case hw => w_witness2
  case hc =>
    refine L2.walk_ofE (l := PySem.Challenge.rw_freetakes_k86_whole_plays_of_matches) (n := 63) (k := 21) (x := "_law_script") (CX := L2.CX0) rfl (by decide) (by kernel_rfl) ⟨rfl, by decide, by decide⟩ ?F (fun _ _ _ _ z => z)
    intro w mg fa h Y G hmg0
    obtain ⟨K, KX, c⟩ := Y
    have hmg : mg ("law" : PySem.Str) = some (.ref fa) := by
      have e : (HandSHeadRun.topDef (OpenLaw.row PySem.Challenge.rw_freetakes_k86_whole_plays_of_matches).prog 89).name = ("law" : PySem.Str) := by kernel_rfl
      rw [← e]
      exact hmg0
    obtain ⟨fd, hb, hF⟩ := RW.facts (w := w) KX G hmg c
    exact ⟨K, fd, RW.spLaw K, KX, hb, fun H a ns hl _ hS => ⟨a, ns, rfl, hS, fun _ => rfl⟩, hF⟩
end
